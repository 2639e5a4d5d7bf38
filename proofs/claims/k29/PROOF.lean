import PyProof.Rows.All
import Wide.All
import OpenK.AllK
import Wide.FinOn
import HandS.ForMost
import HandS.ForSpec
import HandS.CallSlots
import HandS.Flow
import HandS.TupAny
import HandS.IsInst
import HandS.Style
import HandS.Codes
import HandS.Deep
import HandS.TupLen
import HandS.Conv
import HandS.RaiseMore
import HandS.More
import HandS.Dict
import HandS.Iter
import HandS.Zip
import HandS.Rev
import HandS.Comp
import HandS.NoneIn
import HandS.Small
import HandS.WordsExc
import HandS.StrMore
import HandS.TupMul
import HandS.Set
import HandS.Strs
import HandS.SetFor
import PyProof.Rows.SortShellAny
import HandS.Defaults
import PyProof.AutoSeq1
import HandS.ExcInit
import HandS.ExcField
import HandS.DictComp
import KE.SortData
import PySem.Challenge.RW_keepersnotes_k29_plans_made_with_notes
set_option Elab.async false
set_option linter.all false
set_option maxRecDepth 100000
section
/-! Den, part A: data, owned trees, the algebra of what is owned and shared over the abstract heap. -/
namespace Den
open PySem L2

/-- plain data: what is shared and never changes -/
inductive D where
  | non | bl (b : Bool) | int (i : Int) | str (x : Str)
  | tup (ds : List D) | lst (ds : List D)
  | wls (ds : List D)
  | ktp (ds : List D)
  | dic (kvs : List (D × D))
  | dit (kvs : List (D × D))
  | obj (c : Nat) (fs : List (Str × D))
  | xd (fs : List (Str × D))
  deriving Inhabited
/-- what a name holds: shared data, or an object of its own -/
inductive O where
  | sh (d : D)
  | lst (os : List O)
  | dic (kvs : List (D × O))
  | dit (kvs : List (D × O))
  | obj (c : Nat) (fs : List (Str × O))
  deriving Inhabited

/-- what stands through a whole law: the program, its world, the written part, where its classes stand -/
structure Gb where
  prog : Program
  w : World
  K : PySem.W.Frag
  cls : Nat → Addr

def kD : Key → D
  | .inl i => .int i
  | .inr x => .str x

/-- a tuple of ints and texts, as a key -/
def tD (k : List Key) : D := .tup (k.map kD)

mutual
inductive Rep (Γ : Gb) (S : Hp) : V → D → Prop
  | non : Rep Γ S .non .non
  | bl (b : Bool) : Rep Γ S (.bl b) (.bl b)
  | int (i : Int) : Rep Γ S (.int i) (.int i)
  | str (x : Str) : Rep Γ S (.str x) (.str x)
  | tup {a : Addr} {xs : List V} {ds : List D} : S a = some (.tup xs) → RepL Γ S xs ds → Rep Γ S (.ref a) (.tup ds)
  | ktp {a : Addr} {xs : List V} {ds : List D} : SqT Γ.K S a xs → RepL Γ S xs ds → Rep Γ S (.ref a) (.ktp ds)
  | lst {a : Addr} {xs : List V} {ds : List D} : S a = some (.lst xs) → RepL Γ S xs ds → Rep Γ S (.ref a) (.lst ds)
  | wls {a : Addr} {xs : List V} {ds : List D} : SqL Γ.K S a xs → RepL Γ S xs ds → Rep Γ S (.ref a) (.wls ds)
  | dic {a : Addr} {kvs : List (Key × V)} {dkvs : List (D × D)} : S a = some (.dK kvs) → dkvs.map Prod.fst = kvs.map (fun p => kD p.1) → RepL Γ S (kvs.map Prod.snd) (dkvs.map Prod.snd) → Rep Γ S (.ref a) (.dic dkvs)
  | dit {a : Addr} {kvs : List (List Key × V)} {dkvs : List (D × D)} : S a = some (.dT kvs) → dkvs.map Prod.fst = kvs.map (fun p => tD p.1) → RepL Γ S (kvs.map Prod.snd) (dkvs.map Prod.snd) → Rep Γ S (.ref a) (.dit dkvs)
  | obj {a dx : Addr} {c : Nat} {vs : List (Str × V)} {fs : List (Str × D)} : S a = some (.ins (Γ.cls c) dx vs) → fs.map Prod.fst = vs.map Prod.fst → RepL Γ S (vs.map Prod.snd) (fs.map Prod.snd) → Rep Γ S (.ref a) (.obj c fs)
  | xd {a : Addr} {vs : List (Str × V)} {fs : List (Str × D)} : S a = some (.xd vs) → fs.map Prod.fst = vs.map Prod.fst → RepL Γ S (vs.map Prod.snd) (fs.map Prod.snd) → Rep Γ S (.ref a) (.xd fs)
inductive RepL (Γ : Gb) (S : Hp) : List V → List D → Prop
  | nil : RepL Γ S [] []
  | cons {v : V} {vs : List V} {d : D} {ds : List D} : Rep Γ S v d → RepL Γ S vs ds → RepL Γ S (v :: vs) (d :: ds)
end

/-- not a code object's table -/
def NoT (o : HO) : Prop := ∀ ps, o ≠ .tbl ps
/-- what may be owned: no table, no tuple -/
def Ownd (o : HO) : Prop := NoT o ∧ ∀ xs, o ≠ .tup xs
/-- all that S tells stands in H, and is no table -/
def Sub (S H : Hp) : Prop := ∀ a o, S a = some o → H a = some o ∧ NoT o

section
variable {Γ : Gb} {S S' H H' : Hp}
theorem rd_mono (h : ∀ a o, S a = some o → S' a = some o) {a : Addr} {u : HO} (r : Rd S a u) : Rd S' a u := by
  rcases r with r | ⟨o, r⟩
  · exact .inl (h _ _ r)
  · exact .inr ⟨o, h _ _ r⟩
theorem sqT_mono (h : ∀ a o, S a = some o → S' a = some o) {a : Addr} {xs : List V} (r : SqT Γ.K S a xs) : SqT Γ.K S' a xs := by
  rcases r with r | r
  · exact .inl (rd_mono h r)
  · exact .inr r
theorem sqL_mono (h : ∀ a o, S a = some o → S' a = some o) {a : Addr} {xs : List V} (r : SqL Γ.K S a xs) : SqL Γ.K S' a xs := by
  rcases r with r | r
  · exact .inl (rd_mono h r)
  · exact .inr r
mutual
theorem Rep.mono (h : ∀ a o, S a = some o → S' a = some o) : ∀ {v : V} {d : D}, Rep Γ S v d → Rep Γ S' v d
  | _, _, .non => .non
  | _, _, .bl b => .bl b
  | _, _, .int i => .int i
  | _, _, .str x => .str x
  | _, _, .tup hs hl => .tup (h _ _ hs) (RepL.mono h hl)
  | _, _, .ktp hs hl => .ktp (sqT_mono h hs) (RepL.mono h hl)
  | _, _, .lst hs hl => .lst (h _ _ hs) (RepL.mono h hl)
  | _, _, .wls hs hl => .wls (sqL_mono h hs) (RepL.mono h hl)
  | _, _, .dic ha hk hl => .dic (h _ _ ha) hk (RepL.mono h hl)
  | _, _, .dit ha hk hl => .dit (h _ _ ha) hk (RepL.mono h hl)
  | _, _, .obj ha hk hl => .obj (h _ _ ha) hk (RepL.mono h hl)
  | _, _, .xd ha hk hl => .xd (h _ _ ha) hk (RepL.mono h hl)
theorem RepL.mono (h : ∀ a o, S a = some o → S' a = some o) : ∀ {vs : List V} {ds : List D}, RepL Γ S vs ds → RepL Γ S' vs ds
  | _, _, .nil => .nil
  | _, _, .cons r t => .cons (Rep.mono h r) (RepL.mono h t)
end
end

mutual
inductive OR (Γ : Gb) (S H : Hp) : V → O → List Addr → Prop
  | sh {v : V} {d : D} : Rep Γ S v d → OR Γ S H v (.sh d) []
  | lst {a : Addr} {rs : List (V × O)} {os : List O} {F : List Addr} : H a = some (.lst (rs.map Prod.fst)) → ORL Γ S H rs F → os = rs.map Prod.snd → OR Γ S H (.ref a) (.lst os) (a :: F)
  | dic {a : Addr} {kvs : List (Key × V)} {dkvs : List (D × O)} {rs : List (V × O)} {F : List Addr} : H a = some (.dK kvs) → dkvs.map Prod.fst = kvs.map (fun p => kD p.1) → kvs.map Prod.snd = rs.map Prod.fst → dkvs.map Prod.snd = rs.map Prod.snd →
      ORL Γ S H rs F → OR Γ S H (.ref a) (.dic dkvs) (a :: F)
  | dit {a : Addr} {kvs : List (List Key × V)} {dkvs : List (D × O)} {rs : List (V × O)} {F : List Addr} : H a = some (.dT kvs) → dkvs.map Prod.fst = kvs.map (fun p => tD p.1) → kvs.map Prod.snd = rs.map Prod.fst → dkvs.map Prod.snd = rs.map Prod.snd →
      ORL Γ S H rs F → OR Γ S H (.ref a) (.dit dkvs) (a :: F)
  | obj {a dx : Addr} {c : Nat} {vs : List (Str × V)} {fs : List (Str × O)} {rs : List (V × O)} {F : List Addr} : H a = some (.ins (Γ.cls c) dx vs) → fs.map Prod.fst = vs.map Prod.fst → vs.map Prod.snd = rs.map Prod.fst → fs.map Prod.snd = rs.map Prod.snd →
      ORL Γ S H rs F → OR Γ S H (.ref a) (.obj c fs) (a :: F)
inductive ORL (Γ : Gb) (S H : Hp) : List (V × O) → List Addr → Prop
  | nil : ORL Γ S H [] []
  | cons {v : V} {o : O} {rs : List (V × O)} {F G : List Addr} : OR Γ S H v o F → ORL Γ S H rs G → ORL Γ S H ((v, o) :: rs) (F ++ G)
end

section
variable {Γ : Gb} {S S' H H' : Hp}
mutual
theorem OR.mono (h : ∀ a o, S a = some o → S' a = some o) : ∀ {v : V} {o : O} {F : List Addr}, OR Γ S H v o F → (∀ a ∈ F, ∀ o, H a = some o → H' a = some o) → OR Γ S' H' v o F
  | _, _, _, .sh r, _ => .sh (r.mono h)
  | _, _, _, .lst ha hl e, k => .lst (k _ (by simp) _ ha) (ORL.mono h hl fun a m => k a (by simp [m])) e
  | _, _, _, .dic ha e1 e2 e3 hl, k => .dic (k _ (by simp) _ ha) e1 e2 e3 (ORL.mono h hl fun a m => k a (by simp [m]))
  | _, _, _, .dit ha e1 e2 e3 hl, k => .dit (k _ (by simp) _ ha) e1 e2 e3 (ORL.mono h hl fun a m => k a (by simp [m]))
  | _, _, _, .obj ha e1 e2 e3 hl, k => .obj (k _ (by simp) _ ha) e1 e2 e3 (ORL.mono h hl fun a m => k a (by simp [m]))
theorem ORL.mono (h : ∀ a o, S a = some o → S' a = some o) : ∀ {rs : List (V × O)} {F : List Addr}, ORL Γ S H rs F → (∀ a ∈ F, ∀ o, H a = some o → H' a = some o) → ORL Γ S' H' rs F
  | _, _, .nil, _ => .nil
  | _, _, .cons r t, k => .cons (OR.mono h r fun a m => k a (by simp [m])) (ORL.mono h t fun a m => k a (by simp [m]))
end
mutual
/-- what is owned stands in the heap -/
theorem OR.dom : ∀ {v : V} {o : O} {F : List Addr}, OR Γ S H v o F → ∀ a ∈ F, ∃ u, H a = some u ∧ Ownd u
  | _, _, _, .sh _, a, m => by cases m
  | _, _, _, .lst ha hl _, a, m => by
    rcases List.mem_cons.mp m with rfl | m
    · exact ⟨_, ha, (fun ps z => by cases z), fun xs z => by cases z⟩
    · exact ORL.dom hl a m
  | _, _, _, .dic ha _ _ _ hl, a, m => by
    rcases List.mem_cons.mp m with rfl | m
    · exact ⟨_, ha, (fun ps z => by cases z), fun xs z => by cases z⟩
    · exact ORL.dom hl a m
  | _, _, _, .dit ha _ _ _ hl, a, m => by
    rcases List.mem_cons.mp m with rfl | m
    · exact ⟨_, ha, (fun ps z => by cases z), fun xs z => by cases z⟩
    · exact ORL.dom hl a m
  | _, _, _, .obj ha _ _ _ hl, a, m => by
    rcases List.mem_cons.mp m with rfl | m
    · exact ⟨_, ha, (fun ps z => by cases z), fun xs z => by cases z⟩
    · exact ORL.dom hl a m
theorem ORL.dom : ∀ {rs : List (V × O)} {F : List Addr}, ORL Γ S H rs F → ∀ a ∈ F, ∃ u, H a = some u ∧ Ownd u
  | _, _, .nil, a, m => by cases m
  | _, _, .cons r t, a, m => by
    rcases List.mem_append.mp m with m | m
    · exact OR.dom r a m
    · exact ORL.dom t a m
end
theorem ORL.append : ∀ {rs rs' : List (V × O)} {F G : List Addr}, ORL Γ S H rs F → ORL Γ S H rs' G → ORL Γ S H (rs ++ rs') (F ++ G)
  | _, _, _, _, .nil, s => s
  | _, _, _, _, .cons r t, s => by
    rw [List.append_assoc]
    exact .cons r (ORL.append t s)
theorem ORL.split : ∀ {rs rs' : List (V × O)} {F : List Addr}, ORL Γ S H (rs ++ rs') F → ∃ F1 F2, F = F1 ++ F2 ∧ ORL Γ S H rs F1 ∧ ORL Γ S H rs' F2
  | [], rs', F, h => ⟨[], F, rfl, .nil, h⟩
  | (v, o) :: rs, rs', F, h => by
    cases h with
    | cons r t =>
      obtain ⟨F1, F2, rfl, a, b⟩ := ORL.split t
      exact ⟨_, F2, (List.append_assoc _ _ _).symm, .cons r a, b⟩
theorem ORL.perm {rs rs' : List (V × O)} (p : rs.Perm rs') : ∀ {F : List Addr}, ORL Γ S H rs F → ∃ F', ORL Γ S H rs' F' ∧ F.Perm F' := by
  induction p with
  | nil => exact fun h => ⟨_, h, .refl _⟩
  | cons x _ ih =>
    intro F h
    cases h with
    | cons r t =>
      obtain ⟨F', h', q⟩ := ih t
      exact ⟨_, .cons r h', q.append_left _⟩
  | swap x y l =>
    intro F h
    cases h with
    | cons r t =>
      cases t with
      | cons r2 t2 =>
        refine ⟨_, .cons r2 (.cons r t2), ?_⟩
        rw [← List.append_assoc, ← List.append_assoc]
        exact List.Perm.append_right _ List.perm_append_comm
  | trans _ _ i1 i2 =>
    intro F h
    obtain ⟨F1, h1, p1⟩ := i1 h
    obtain ⟨F2, h2, p2⟩ := i2 h1
    exact ⟨F2, h2, p1.trans p2⟩
end

/-- where a def began: what was shared, the heap, what was owned -/
structure Ent where
  S : Hp
  H : Hp
  F : List Addr
structure Stp (c : Ent) (S H : Hp) (F : List Addr) : Prop where
  shr : ∀ a o, c.S a = some o → S a = some o
  frm : ∀ a o, c.H a = some o → NoT o → a ∉ c.F → H a = some o
  dom : ∀ a, H a = none → c.H a = none
  own : ∀ a ∈ F, a ∈ c.F ∨ c.H a = none
  sgr : ∀ a, S a ≠ none → c.S a ≠ none ∨ a ∈ c.F ∨ c.H a = none ∨ ∃ o, c.H a = some o ∧ ¬ Ownd o
/-- the resources R are held, from c on; besides the bare cells L -/
def RSL (Γ : Gb) (c : Ent) (R : List (V × O)) (L : List Addr) (H : Hp) : Prop :=
  ∃ S F, Stp c S H (F ++ L) ∧ ORL Γ S H R F ∧ (F ++ L).Nodup ∧ (∀ a ∈ F ++ L, S a = none) ∧ Sub S H ∧ ∀ a ∈ L, ∃ u, H a = some u ∧ NoT u
def RS (Γ : Gb) (c : Ent) (R : List (V × O)) (H : Hp) : Prop := RSL Γ c R [] H

theorem ORL.mem {Γ : Gb} {H : Hp} {S : Hp} : ∀ {R : List (V × O)} {F : List Addr}, ORL Γ S H R F → ∀ {p : V × O}, p ∈ R → ∃ G, OR Γ S H p.1 p.2 G ∧ ∀ a ∈ G, a ∈ F
  | _, _, .nil, p, m => by cases m
  | _, _, .cons r t, p, m => by
    rcases List.mem_cons.mp m with rfl | m
    · exact ⟨_, r, fun a z => by simp [z]⟩
    · obtain ⟨G, x, y⟩ := ORL.mem t m
      exact ⟨G, x, fun a z => by simp [y a z]⟩

theorem Stp.mem {c : Ent} {S H : Hp} {F G : List Addr} (h : Stp c S H F) (k : ∀ a ∈ G, a ∈ F) : Stp c S H G := ⟨h.shr, h.frm, h.dom, fun a m => h.own a (k a m), h.sgr⟩
/-- what can't be owned now could not be owned at the beginning, if it stood -/
theorem Stp.tupS {c : Ent} {S H : Hp} {F : List Addr} (st : Stp c S H F) {a : Addr} (z : ∃ o, H a = some o ∧ ¬ Ownd o) : c.S a ≠ none ∨ a ∈ c.F ∨ c.H a = none ∨ ∃ o, c.H a = some o ∧ ¬ Ownd o := by
  obtain ⟨o, ho, hn⟩ := z
  cases e : c.H a with
  | none => exact .inr (.inr (.inl rfl))
  | some u =>
    by_cases hu : Ownd u
    · by_cases m : a ∈ c.F
      · exact .inr (.inl m)
      · have := st.frm a u e hu.1 m
        rw [ho] at this
        cases this
        exact (hn hu).elim
    · exact .inr (.inr (.inr ⟨u, rfl, hu⟩))
theorem OR.ext {Γ : Gb} {S H H' : Hp} {v : V} {o : O} {F : List Addr} (r : OR Γ S H v o F) (k : ∀ a ∈ F, ∀ o, H a = some o → H' a = some o) : OR Γ S H' v o F := r.mono (fun _ _ e => e) k
theorem ORL.ext {Γ : Gb} {S H H' : Hp} {R : List (V × O)} {F : List Addr} (r : ORL Γ S H R F) (k : ∀ a ∈ F, ∀ o, H a = some o → H' a = some o) : ORL Γ S H' R F := r.mono (fun _ _ e => e) k

section
variable {Γ : Gb} {c : Ent} {R R' : List (V × O)} {L : List Addr} {H : Hp} {v : V} {o : O} {d : D}
theorem RSL.perm (h : RSL Γ c R L H) (p : R.Perm R') : RSL Γ c R' L H := by
  obtain ⟨S, F, st, r, nd, dj, sb, lc⟩ := h
  obtain ⟨F', r', q⟩ := r.perm p
  have q' : (F ++ L).Perm (F' ++ L) := q.append_right L
  exact ⟨S, F', st.mem fun a m => q'.mem_iff.mpr m, r', q'.nodup_iff.mp nd, fun a m => dj a (q'.mem_iff.mpr m), sb, lc⟩
theorem RS.perm (h : RS Γ c R H) (p : R.Perm R') : RS Γ c R' H := RSL.perm h p
theorem RS.dropL (h : RS Γ c (R ++ R') H) : RS Γ c R' H := by
  obtain ⟨S, F, st, r, nd, dj, sb, lc⟩ := h
  obtain ⟨F1, F2, rfl, _, r2⟩ := r.split
  have k : ∀ a, a ∈ F2 ++ [] → a ∈ (F1 ++ F2) ++ [] := fun a m => by simp at m ⊢; exact .inr m
  exact ⟨S, F2, st.mem k, r2, by simp at nd ⊢; exact (List.nodup_append.mp nd).2.1, fun a m => dj a (k a m), sb, lc⟩
theorem RS.drop (h : RS Γ c ((v, o) :: R) H) : RS Γ c R H := RS.dropL (R := [(v, o)]) h
theorem RS.dropR (h : RS Γ c (R ++ R') H) : RS Γ c R H := RS.dropL (h.perm List.perm_append_comm)
/-- a tuple that stands, of things that are shared: nobody owns it, it is shared -/
theorem RS.addT {b : Addr} {xs : List V} {ds : List D} (h : RS Γ c R H) (hb : H b = some (.tup xs)) (r : ∀ S, Sub S H → (∀ p ∈ R, ∃ F, OR Γ S H p.1 p.2 F) → RepL Γ S xs ds) : RS Γ c ((.ref b, .sh (.tup ds)) :: R) H := by
  obtain ⟨S, F, st, q, nd, dj, sb, lc⟩ := h
  rw [List.append_nil] at st nd dj
  have rl := r S sb fun p m => by
    obtain ⟨G, x, _⟩ := q.mem m
    exact ⟨G, x⟩
  have nF : b ∉ F := fun m => by
    obtain ⟨u, hu, _, hn⟩ := q.dom b m
    rw [hb] at hu
    cases hu
    exact hn _ rfl
  have S1 : ∀ a o, S a = some o → upd S b (.tup xs) a = some o := fun a o e => by
    by_cases ha : a = b
    · have := (sb a o e).1
      rw [ha, hb] at this
      cases this
      rw [ha, upd_same]
    · rw [upd_ne ha]
      exact e
  refine ⟨upd S b (.tup xs), F, ⟨fun a o e => S1 a o (st.shr a o e), st.frm, st.dom, fun a m => st.own a (by simpa using m), fun a e => ?_⟩, .cons (F := []) (.sh (.tup upd_same (RepL.mono S1 rl))) (q.mono S1 fun _ _ _ e => e), by simpa using nd, fun a m => ?_, fun a o e => ?_, fun a m => by cases m⟩
  · by_cases ha : a = b
    · exact st.tupS ⟨_, by rw [ha]; exact hb, fun z => z.2 _ rfl⟩
    · rw [upd_ne ha] at e
      exact st.sgr a e
  · have m' : a ∈ F := by simpa using m
    rw [upd_ne (fun (z : a = b) => nF (z ▸ m'))]
    exact dj a m'
  · by_cases ha : a = b
    · rw [ha, upd_same] at e
      cases e
      rw [ha]
      exact ⟨hb, fun _ z => by cases z⟩
    · rw [upd_ne ha] at e
      exact sb a o e
/-- plain data that stands in each shared heap -/
theorem RS.pure (h : RS Γ c R H) (r : ∀ S, Rep Γ S v d) : RS Γ c ((v, .sh d) :: R) H := by
  obtain ⟨S, F, st, q, nd, dj, sb, lc⟩ := h
  exact ⟨S, F, st, .cons (F := []) (.sh (r S)) q, nd, dj, sb, lc⟩
/-- what is held may be read -/
theorem RepL.orl {S H : Hp} : ∀ {xs : List V} {ds : List D}, RepL Γ S xs ds → ORL Γ S H (xs.zip (ds.map O.sh)) []
  | _, _, .nil => .nil
  | _, _, .cons r t => .cons (F := []) (G := []) (.sh r) (RepL.orl t)
theorem RS.readS (h : RS Γ c R H) : ∃ S, Sub S H ∧ (∀ p ∈ R, ∃ F, OR Γ S H p.1 p.2 F) ∧ (∀ w e, Rep Γ S w e → RS Γ c ((w, .sh e) :: R) H) ∧ ∀ xs ds, RepL Γ S xs ds → RS Γ c (xs.zip (ds.map O.sh) ++ R) H := by
  obtain ⟨S, F, st, q, nd, dj, sb, lc⟩ := h
  refine ⟨S, sb, fun p m => ?_, fun w e r => ⟨S, F, st, .cons (F := []) (.sh r) q, nd, dj, sb, lc⟩, fun xs ds r => ⟨S, F, st, r.orl.append q, nd, dj, sb, lc⟩⟩
  obtain ⟨G, x, _⟩ := q.mem m
  exact ⟨G, x⟩
/-- what is shared may be had again -/
theorem RS.dup (h : RS Γ c R H) (m : (v, O.sh d) ∈ R) : RS Γ c ((v, .sh d) :: R) H := by
  obtain ⟨S, sb, rd, ad, _⟩ := h.readS
  obtain ⟨F, x⟩ := rd _ m
  cases x with
  | sh r => exact ad _ _ r
theorem sub_free {S : Hp} (sb : Sub S H) {p : Addr} (hp : H p = none) : S p = none := by
  cases e : S p with
  | none => rfl
  | some o =>
    have z := (sb p o e).1
    rw [hp] at z
    cases z
/-- a new cell -/
theorem RS.new (h : RS Γ c R H) {p : Addr} (hp : H p = none) {u : HO} (hu : NoT u) : RSL Γ c R [p] (upd H p u) := by
  obtain ⟨S, F, st, q, nd, dj, sb, lc⟩ := h
  rw [List.append_nil] at st nd dj
  have nF : ∀ a ∈ F, a ≠ p := fun a m e => by
    obtain ⟨u, hu, _⟩ := q.dom a m
    rw [e, hp] at hu
    cases hu
  have nS : S p = none := sub_free sb hp
  have keep : ∀ a o, H a = some o → upd H p u a = some o := fun a o e => by
    rw [upd_ne (ne_of_none e hp)]
    exact e
  refine ⟨S, F, ⟨st.shr, fun a o e n m => keep a o (st.frm a o e n m), fun a e => ?_, fun a m => ?_, st.sgr⟩, q.ext fun a m o e => keep a o e, ?_, fun a m => ?_, fun a o e => ⟨keep a o (sb a o e).1, (sb a o e).2⟩, fun a m => ?_⟩
  · by_cases ha : a = p
    · rw [ha, upd_same] at e
      cases e
    · rw [upd_ne ha] at e
      exact st.dom a e
  · rcases List.mem_append.mp m with m | m
    · exact st.own a m
    · rw [List.mem_singleton.mp m]
      exact .inr (st.dom p hp)
  · exact List.nodup_append.mpr ⟨nd, by simp, fun a m b m' => by rw [List.mem_singleton.mp m']; exact nF a m⟩
  · rcases List.mem_append.mp m with m | m
    · exact dj a m
    · rw [List.mem_singleton.mp m]
      exact nS
  · rw [List.mem_singleton.mp m]
    exact ⟨u, upd_same, hu⟩
/-- an owned object is opened: its cell alone, what it holds besides -/
theorem RSL.put {a : Addr} (h : RSL Γ c R [a] H) {u : HO} (hu : NoT u) : RSL Γ c R [a] (upd H a u) := by
  obtain ⟨S, F, st, q, nd, dj, sb, lc⟩ := h
  have nS : S a = none := dj a (by simp)
  have nF : ∀ b ∈ F, b ≠ a := fun b m e => (List.nodup_append.mp nd).2.2 b m a (by simp) e
  have keep : ∀ b o, b ≠ a → H b = some o → upd H a u b = some o := fun b o n e => by
    rw [upd_ne n]
    exact e
  refine ⟨S, F, ⟨st.shr, fun b o e n m => keep b o (fun z => ?_) (st.frm b o e n m), fun b e => ?_, st.own, st.sgr⟩, q.ext fun b m o e => keep b o (nF b m) e, nd, dj, fun b o e => ⟨keep b o (fun z => ?_) (sb b o e).1, (sb b o e).2⟩, fun b m => ?_⟩
  · rcases st.own a (by simp) with w | w
    · exact m (z ▸ w)
    · rw [z, w] at e
      cases e
  · by_cases hb : b = a
    · rw [hb, upd_same] at e
      cases e
    · rw [upd_ne hb] at e
      exact st.dom b e
  · rw [z, nS] at e
    cases e
  · rw [List.mem_singleton.mp m]
    exact ⟨u, upd_same, hu⟩
theorem RSL.close {a : Addr} {rs : List (V × O)} (h : RSL Γ c (rs ++ R) [a] H) (k : ∀ (S : Hp) (F : List Addr), ORL Γ S H rs F → OR Γ S H (.ref a) o (a :: F)) : RS Γ c ((.ref a, o) :: R) H := by
  obtain ⟨S, F, st, q, nd, dj, sb, lc⟩ := h
  obtain ⟨F1, F2, rfl, r1, r2⟩ := q.split
  have p : ((F1 ++ F2) ++ [a]).Perm (((a :: F1) ++ F2) ++ []) := by
    rw [List.append_nil]
    exact List.perm_append_comm
  exact ⟨S, (a :: F1) ++ F2, st.mem fun b m => p.mem_iff.mpr m, .cons (k S F1 r1) r2, p.nodup_iff.mp nd, fun b m => dj b (p.mem_iff.mpr m), sb, fun b m => by cases m⟩
theorem RS.opens (h : RS Γ c ((v, o) :: R) H) {a : Addr} {P : List (V × O) → Prop} (k : ∀ (S : Hp) (F : List Addr), OR Γ S H v o F → ∃ rs F', F = a :: F' ∧ ORL Γ S H rs F' ∧ P rs ∧ ∃ u, H a = some u ∧ NoT u) : ∃ rs, P rs ∧ RSL Γ c (rs ++ R) [a] H := by
  obtain ⟨S, F, st, q, nd, dj, sb, lc⟩ := h
  cases q with
  | cons r t =>
    rename_i F1 F2
    obtain ⟨rs, F', rfl, r', pr, hu⟩ := k S F1 r
    have p : (((a :: F') ++ F2) ++ []).Perm ((F' ++ F2) ++ [a]) := by
      rw [List.append_nil]
      exact List.perm_append_comm (l₁ := [a])
    exact ⟨rs, pr, S, F' ++ F2, st.mem fun b m => p.mem_iff.mpr m, r'.append t, p.nodup_iff.mp nd, fun b m => dj b (p.mem_iff.mpr m), sb, fun b m => by rw [List.mem_singleton.mp m]; exact hu⟩
end

/-! ### lists, tuples, dicts: made, opened, closed -/
section
variable {Γ : Gb} {c : Ent} {R : List (V × O)} {H : Hp} {v : V} {o : O}
theorem noT_lst {xs : List V} : NoT (.lst xs) := fun _ z => by cases z
theorem noT_tup {xs : List V} : NoT (.tup xs) := fun _ z => by cases z
theorem noT_dK {kvs : List (Key × V)} : NoT (.dK kvs) := fun _ z => by cases z
theorem noT_dT {kvs : List (List Key × V)} : NoT (.dT kvs) := fun _ z => by cases z
theorem RSL.closeL {a : Addr} {rs : List (V × O)} (h : RSL Γ c (rs ++ R) [a] H) (ha : H a = some (.lst (rs.map Prod.fst))) : RS Γ c ((.ref a, .lst (rs.map Prod.snd)) :: R) H :=
  h.close fun _ _ q => .lst ha q rfl
theorem noT_ins {C dx : Addr} {fs : List (Str × V)} : NoT (.ins C dx fs) := fun _ z => by cases z
theorem RSL.closeO {a dx : Addr} {n : Nat} {rs : List (V × O)} {vs : List (Str × V)} {fs : List (Str × O)} (h : RSL Γ c (rs ++ R) [a] H) (ha : H a = some (.ins (Γ.cls n) dx vs)) (e1 : fs.map Prod.fst = vs.map Prod.fst) (e2 : vs.map Prod.snd = rs.map Prod.fst)
    (e3 : fs.map Prod.snd = rs.map Prod.snd) : RS Γ c ((.ref a, .obj n fs) :: R) H := h.close fun _ _ q => .obj ha e1 e2 e3 q
theorem RSL.closeD {a : Addr} {rs : List (V × O)} {kvs : List (Key × V)} {dkvs : List (D × O)} (h : RSL Γ c (rs ++ R) [a] H) (ha : H a = some (.dK kvs)) (e1 : dkvs.map Prod.fst = kvs.map (fun p => kD p.1)) (e2 : kvs.map Prod.snd = rs.map Prod.fst)
    (e3 : dkvs.map Prod.snd = rs.map Prod.snd) : RS Γ c ((.ref a, .dic dkvs) :: R) H := h.close fun _ _ q => .dic ha e1 e2 e3 q
theorem RSL.closeDT {a : Addr} {rs : List (V × O)} {kvs : List (List Key × V)} {dkvs : List (D × O)} (h : RSL Γ c (rs ++ R) [a] H) (ha : H a = some (.dT kvs)) (e1 : dkvs.map Prod.fst = kvs.map (fun p => tD p.1)) (e2 : kvs.map Prod.snd = rs.map Prod.fst)
    (e3 : dkvs.map Prod.snd = rs.map Prod.snd) : RS Γ c ((.ref a, .dit dkvs) :: R) H := h.close fun _ _ q => .dit ha e1 e2 e3 q
theorem RS.newL {rs : List (V × O)} (h : RS Γ c (rs ++ R) H) {p : Addr} (hp : H p = none) : RS Γ c ((.ref p, .lst (rs.map Prod.snd)) :: R) (upd H p (.lst (rs.map Prod.fst))) :=
  (h.new hp noT_lst).closeL upd_same
theorem RS.newD {rs : List (V × O)} {kvs : List (Key × V)} {dkvs : List (D × O)} (h : RS Γ c (rs ++ R) H) {p : Addr} (hp : H p = none) (e1 : dkvs.map Prod.fst = kvs.map (fun p => kD p.1)) (e2 : kvs.map Prod.snd = rs.map Prod.fst)
    (e3 : dkvs.map Prod.snd = rs.map Prod.snd) : RS Γ c ((.ref p, .dic dkvs) :: R) (upd H p (.dK kvs)) := (h.new hp noT_dK).closeD upd_same e1 e2 e3
theorem RS.newDT {rs : List (V × O)} {kvs : List (List Key × V)} {dkvs : List (D × O)} (h : RS Γ c (rs ++ R) H) {p : Addr} (hp : H p = none) (e1 : dkvs.map Prod.fst = kvs.map (fun p => tD p.1)) (e2 : kvs.map Prod.snd = rs.map Prod.fst)
    (e3 : dkvs.map Prod.snd = rs.map Prod.snd) : RS Γ c ((.ref p, .dit dkvs) :: R) (upd H p (.dT kvs)) := (h.new hp noT_dT).closeDT upd_same e1 e2 e3
theorem RS.openL {os : List O} (h : RS Γ c ((v, .lst os) :: R) H) : ∃ a rs, v = .ref a ∧ os = rs.map Prod.snd ∧ H a = some (.lst (rs.map Prod.fst)) ∧ RSL Γ c (rs ++ R) [a] H := by
  obtain ⟨S, sb, rd, _⟩ := h.readS
  obtain ⟨F, x⟩ := rd _ List.mem_cons_self
  cases x with
  | @lst a _ _ _ ha hl e =>
    obtain ⟨rs, ⟨p1, p2⟩, q⟩ := h.opens (a := a) (P := fun rs => os = rs.map Prod.snd ∧ H a = some (.lst (rs.map Prod.fst))) fun S F x => by
      cases x with
      | lst ha hl e => exact ⟨_, _, rfl, hl, ⟨e, ha⟩, _, ha, noT_lst⟩
    exact ⟨a, rs, rfl, p1, p2, q⟩
theorem RS.openD {dkvs : List (D × O)} (h : RS Γ c ((v, .dic dkvs) :: R) H) : ∃ a rs kvs, v = .ref a ∧ H a = some (.dK kvs) ∧ dkvs.map Prod.fst = kvs.map (fun p => kD p.1) ∧ kvs.map Prod.snd = rs.map Prod.fst ∧ dkvs.map Prod.snd = rs.map Prod.snd ∧ RSL Γ c (rs ++ R) [a] H := by
  obtain ⟨S, sb, rd, _⟩ := h.readS
  obtain ⟨F, x⟩ := rd _ List.mem_cons_self
  cases x with
  | @dic a _ _ _ _ ha e1 e2 e3 hl =>
    obtain ⟨rs, ⟨kvs, p1, p2, p3, p4⟩, q⟩ := h.opens (a := a) (P := fun rs => ∃ kvs, H a = some (.dK kvs) ∧ dkvs.map Prod.fst = kvs.map (fun p => kD p.1) ∧ kvs.map Prod.snd = rs.map Prod.fst ∧ dkvs.map Prod.snd = rs.map Prod.snd) fun S F x => by
      cases x with
      | dic ha e1 e2 e3 hl => exact ⟨_, _, rfl, hl, ⟨_, ha, e1, e2, e3⟩, _, ha, noT_dK⟩
    exact ⟨a, rs, kvs, rfl, p1, p2, p3, p4, q⟩
theorem RS.openDT {dkvs : List (D × O)} (h : RS Γ c ((v, .dit dkvs) :: R) H) : ∃ a rs kvs, v = .ref a ∧ H a = some (.dT kvs) ∧ dkvs.map Prod.fst = kvs.map (fun p => tD p.1) ∧ kvs.map Prod.snd = rs.map Prod.fst ∧ dkvs.map Prod.snd = rs.map Prod.snd ∧ RSL Γ c (rs ++ R) [a] H := by
  obtain ⟨S, sb, rd, _⟩ := h.readS
  obtain ⟨F, x⟩ := rd _ List.mem_cons_self
  cases x with
  | @dit a _ _ _ _ ha e1 e2 e3 hl =>
    obtain ⟨rs, ⟨kvs, p1, p2, p3, p4⟩, q⟩ := h.opens (a := a) (P := fun rs => ∃ kvs, H a = some (.dT kvs) ∧ dkvs.map Prod.fst = kvs.map (fun p => tD p.1) ∧ kvs.map Prod.snd = rs.map Prod.fst ∧ dkvs.map Prod.snd = rs.map Prod.snd) fun S F x => by
      cases x with
      | dit ha e1 e2 e3 hl => exact ⟨_, _, rfl, hl, ⟨_, ha, e1, e2, e3⟩, _, ha, noT_dT⟩
    exact ⟨a, rs, kvs, rfl, p1, p2, p3, p4, q⟩
theorem RS.openO {n : Nat} {fs : List (Str × O)} (h : RS Γ c ((v, .obj n fs) :: R) H) : ∃ a dx rs vs, v = .ref a ∧ H a = some (.ins (Γ.cls n) dx vs) ∧ fs.map Prod.fst = vs.map Prod.fst ∧ vs.map Prod.snd = rs.map Prod.fst ∧ fs.map Prod.snd = rs.map Prod.snd ∧ RSL Γ c (rs ++ R) [a] H := by
  obtain ⟨S, sb, rd, _⟩ := h.readS
  obtain ⟨F, x⟩ := rd _ List.mem_cons_self
  cases x with
  | @obj a dx _ _ _ _ _ ha e1 e2 e3 hl =>
    obtain ⟨rs, ⟨dx, vs, p1, p2, p3, p4⟩, q⟩ := h.opens (a := a) (P := fun rs => ∃ dx vs, H a = some (.ins (Γ.cls n) dx vs) ∧ fs.map Prod.fst = vs.map Prod.fst ∧ vs.map Prod.snd = rs.map Prod.fst ∧ fs.map Prod.snd = rs.map Prod.snd) fun S F x => by
      cases x with
      | obj ha e1 e2 e3 hl => exact ⟨_, _, rfl, hl, ⟨_, _, ha, e1, e2, e3⟩, _, ha, noT_ins⟩
    exact ⟨a, dx, rs, vs, rfl, p1, p2, p3, p4, q⟩
/-- bare cells are let go -/
theorem RSL.letgo {a : Addr} (h : RSL Γ c R [a] H) : RS Γ c R H := by
  obtain ⟨S, F, st, q, nd, dj, sb, lc⟩ := h
  have k : ∀ b, b ∈ F ++ [] → b ∈ F ++ [a] := fun b m => by simp at m; simp [m]
  exact ⟨S, F, st.mem k, q, by simp; exact (List.nodup_append.mp nd).1, fun b m => dj b (k b m), sb, fun b m => by cases m⟩
end

/-! ### what was owned is shared from now on -/
mutual
def fz : O → D
  | .sh d => d
  | .lst os => .lst (fzL os)
  | .dic kvs => .dic (fzKV kvs)
  | .dit kvs => .dit (fzKV kvs)
  | .obj c fs => .obj c (fzFs fs)
def fzL : List O → List D
  | [] => []
  | o :: os => fz o :: fzL os
def fzKV : List (D × O) → List (D × D)
  | [] => []
  | (k, o) :: r => (k, fz o) :: fzKV r
def fzFs : List (Str × O) → List (Str × D)
  | [] => []
  | (k, o) :: r => (k, fz o) :: fzFs r
end
theorem fzFs_map : ∀ kvs : List (Str × O), fzFs kvs = kvs.map fun p => (p.1, fz p.2)
  | [] => rfl
  | (k, o) :: r => by rw [fzFs, fzFs_map r, List.map_cons]
theorem fzL_map : ∀ os : List O, fzL os = os.map fz
  | [] => rfl
  | o :: os => by rw [fzL, fzL_map os, List.map_cons]
theorem fzKV_map : ∀ kvs : List (D × O), fzKV kvs = kvs.map fun p => (p.1, fz p.2)
  | [] => rfl
  | (k, o) :: r => by rw [fzKV, fzKV_map r, List.map_cons]
/-- S with the cells of G as they stand in H -/
def addS (S H : Hp) (G : List Addr) : Hp := fun a => if a ∈ G then H a else S a
section
variable {Γ : Gb} {S H : Hp}
theorem addS_in {G : List Addr} {a : Addr} (m : a ∈ G) : addS S H G a = H a := if_pos m
theorem addS_out {G : List Addr} {a : Addr} (m : a ∉ G) : addS S H G a = S a := if_neg m
mutual
theorem OR.fz {S' : Hp} (h : ∀ a o, S a = some o → S' a = some o) : ∀ {v : V} {o : O} {F : List Addr}, OR Γ S H v o F → (∀ a ∈ F, ∀ o, H a = some o → S' a = some o) → Rep Γ S' v (Den.fz o)
  | _, _, _, .sh r, _ => by rw [Den.fz]; exact r.mono h
  | _, _, _, .lst ha hl e, k => by
    rw [Den.fz, e]
    exact .lst (k _ (by simp) _ ha) (ORL.fz h hl fun a m => k a (by simp [m]))
  | _, _, _, .dic ha e1 e2 e3 hl, k => by
    rw [Den.fz, fzKV_map]
    refine .dic (k _ (by simp) _ ha) ?_ ?_
    · rw [List.map_map]
      exact e1
    · have q := ORL.fz h hl fun a m => k a (by simp [m])
      rw [e2, List.map_map]
      rw [fzL_map, ← e3, List.map_map] at q
      exact q
  | _, _, _, .dit ha e1 e2 e3 hl, k => by
    rw [Den.fz, fzKV_map]
    refine .dit (k _ (by simp) _ ha) ?_ ?_
    · rw [List.map_map]
      exact e1
    · have q := ORL.fz h hl fun a m => k a (by simp [m])
      rw [e2, List.map_map]
      rw [fzL_map, ← e3, List.map_map] at q
      exact q
  | _, _, _, .obj ha e1 e2 e3 hl, k => by
    rw [Den.fz, fzFs_map]
    refine .obj (k _ (by simp) _ ha) ?_ ?_
    · rw [List.map_map]
      exact e1
    · have q := ORL.fz h hl fun a m => k a (by simp [m])
      rw [e2, List.map_map]
      rw [fzL_map, ← e3, List.map_map] at q
      exact q
theorem ORL.fz {S' : Hp} (h : ∀ a o, S a = some o → S' a = some o) : ∀ {rs : List (V × O)} {F : List Addr}, ORL Γ S H rs F → (∀ a ∈ F, ∀ o, H a = some o → S' a = some o) → RepL Γ S' (rs.map Prod.fst) (fzL (rs.map Prod.snd))
  | _, _, .nil, _ => by
    rw [List.map_nil, List.map_nil, fzL]
    exact .nil
  | _, _, .cons r t, k => by
    rw [List.map_cons, List.map_cons, fzL]
    exact .cons (OR.fz h r fun a m => k a (by simp [m])) (ORL.fz h t fun a m => k a (by simp [m]))
end
end
section
variable {Γ : Gb} {c : Ent} {R : List (V × O)} {H : Hp} {v : V} {o : O}
theorem RS.freeze (h : RS Γ c ((v, o) :: R) H) : RS Γ c ((v, .sh (fz o)) :: R) H := by
  obtain ⟨S, F, st, q, nd, dj, sb, lc⟩ := h
  rw [List.append_nil] at st nd dj
  cases q with
  | cons r t =>
    rename_i F1 F2
    have S1 : ∀ a o, S a = some o → addS S H F1 a = some o := fun a u e => by
      by_cases m : a ∈ F1
      · rw [addS_in m]
        exact (sb a u e).1
      · rw [addS_out m]
        exact e
    have nd2 := List.nodup_append.mp nd
    refine ⟨addS S H F1, F2, ⟨fun a u e => S1 a u (st.shr a u e), st.frm, st.dom, fun a m => st.own a (by simp at m; simp [m]), fun a e => ?_⟩, .cons (F := []) (.sh (r.fz S1 fun a m u e => ?_)) (t.mono S1 fun _ _ _ e => e), by simp; exact nd2.2.1, fun a m => ?_, fun a u e => ?_, lc⟩
    · by_cases m : a ∈ F1
      · exact (st.own a (by simp [m])).elim (fun z => .inr (.inl z)) fun z => .inr (.inr (.inl z))
      · rw [addS_out m] at e
        exact st.sgr a e
    · rw [addS_in m]
      exact e
    · have m2 : a ∈ F2 := by simpa using m
      rw [addS_out fun z => nd2.2.2 a z a m2 rfl]
      exact dj a (by simp [m2])
    · by_cases m : a ∈ F1
      · rw [addS_in m] at e
        obtain ⟨u', hu, n⟩ := r.dom a m
        rw [e] at hu
        cases hu
        exact ⟨e, n.1⟩
      · rw [addS_out m] at e
        exact sb a u e
end
/-! ### a call: the caller's own things stand by -/
section
variable {Γ : Gb} {c : Ent} {R1 R2 : List (V × O)} {H : Hp}
theorem RS.enter (h : RS Γ c (R1 ++ R2) H) : ∃ e : Ent, e.H = H ∧ RS Γ e R1 H ∧ ∀ R1' H', RS Γ e R1' H' → RS Γ c (R1' ++ R2) H' := by
  obtain ⟨S, F, st, q, nd, dj, sb, lc⟩ := h
  rw [List.append_nil] at st nd dj
  obtain ⟨F1, F2, rfl, r1, r2⟩ := q.split
  have nd2 := List.nodup_append.mp nd
  refine ⟨⟨S, H, F1⟩, rfl, ⟨S, F1, ⟨fun _ _ e => e, fun _ _ e _ _ => e, fun _ e => e, fun a m => .inl (by simpa using m), fun _ e => .inl e⟩, r1, by simp; exact nd2.1, fun a m => dj a (by simp at m; simp [m]), sb, fun a m => by cases m⟩, fun R1' H' h' => ?_⟩
  obtain ⟨S', F', st', q', nd', dj', sb', lc'⟩ := h'
  rw [List.append_nil] at st' nd' dj'
  have n12 : ∀ a ∈ F2, a ∉ F1 := fun a m z => nd2.2.2 a z a m rfl
  have keep2 : ∀ a ∈ F2, ∀ o, H a = some o → H' a = some o := fun a m o e => by
    obtain ⟨u, hu, n⟩ := r2.dom a m
    rw [e] at hu
    cases hu
    exact st'.frm a o e n.1 (n12 a m)
  have not2 : ∀ a ∈ F', a ∉ F2 := fun a m z => by
    rcases st'.own a m with w | w
    · exact n12 a z w
    · obtain ⟨u, hu, _⟩ := r2.dom a z
      have w' : H a = none := w
      rw [w'] at hu
      cases hu
  have own' : ∀ a, a ∈ F1 ∨ H a = none → a ∈ c.F ∨ c.H a = none := fun a z => z.elim (fun z => st.own a (by simp [z])) fun z => .inr (st.dom a z)
  refine ⟨S', F' ++ F2, ⟨fun a o e => st'.shr a o (st.shr a o e), fun a o e n m => ?_, fun a e => st.dom a (st'.dom a e), fun a m => ?_, fun a e => ?_⟩, q'.append (r2.mono st'.shr keep2), ?_, fun a m => ?_, sb', fun a m => by cases m⟩
  · refine st'.frm a o (st.frm a o e n m) n fun z => ?_
    rcases st.own a (by simp; exact .inl z) with w | w
    · exact m w
    · rw [w] at e
      cases e
  · rcases List.mem_append.mp (by simpa using m) with m | m
    · exact own' a (st'.own a m)
    · exact st.own a (by simp [m])
  · rcases st'.sgr a e with z | z | z | z
    · exact st.sgr a z
    · exact .inr ((own' a (.inl z)).imp_right .inl)
    · exact .inr ((own' a (.inr z)).imp_right .inl)
    · exact st.tupS z
  · rw [List.append_nil]
    exact List.nodup_append.mpr ⟨nd', nd2.2.1, fun a m b m' e => not2 a m (e ▸ m')⟩
  · rcases List.mem_append.mp (by simpa using m) with m | m
    · exact dj' a m
    · cases e : S' a with
      | none => rfl
      | some o =>
        have z : S' a ≠ none := by rw [e]; exact fun z => by cases z
        rcases st'.sgr a z with w | w | w | w
        · exact (w (dj a (by simp [m]))).elim
        · exact (n12 a m w).elim
        · obtain ⟨u, hu, _⟩ := r2.dom a m
          have w' : H a = none := w
          rw [w'] at hu
          cases hu
        · obtain ⟨u, hu, hn⟩ := r2.dom a m
          obtain ⟨o', ho', hno⟩ := w
          have ho2 : H a = some o' := ho'
          rw [ho2] at hu
          cases hu
          exact (hno hn).elim
end
end Den
end
section
/-! Den, part B: stores, what an expression, a test, arguments, a statement do. -/
namespace Den
open PySem L2
abbrev Store := List (Option O)
inductive SlotsOk : L2.St → Store → Prop
  | nil : SlotsOk [] []
  | skip {x : Option V} {σ : L2.St} {ρ : Store} : SlotsOk σ ρ → SlotsOk (x :: σ) (none :: ρ)
  | keep {v : V} {o : O} {σ : L2.St} {ρ : Store} : SlotsOk σ ρ → SlotsOk (some v :: σ) (some o :: ρ)
def slotsR : L2.St → Store → List (V × O)
  | some v :: σ, some o :: ρ => (v, o) :: slotsR σ ρ
  | _ :: σ, _ :: ρ => slotsR σ ρ
  | _, _ => []
theorem slotsR_skip {x : Option V} {σ : L2.St} {ρ : Store} : slotsR (x :: σ) (none :: ρ) = slotsR σ ρ := by cases x <;> rfl
theorem SlotsOk.len {σ : L2.St} {ρ : Store} (h : SlotsOk σ ρ) : σ.length = ρ.length := by
  induction h with
  | nil => rfl
  | skip _ ih => simp [ih]
  | keep _ ih => simp [ih]
theorem slots_take {σ : L2.St} {ρ : Store} {o : O} (h : SlotsOk σ ρ) : ∀ {i : Nat}, ρ[i]? = some (some o) →
    ∃ v, σ[i]? = some (some v) ∧ SlotsOk σ (ρ.set i none) ∧ (slotsR σ ρ).Perm ((v, o) :: slotsR σ (ρ.set i none)) := by
  induction h with
  | nil => intro i e; simp at e
  | @skip x σ ρ h ih =>
    intro i e
    cases i with
    | zero => simp at e
    | succ i =>
      obtain ⟨v, a, b, c⟩ := ih (i := i) (by simpa using e)
      refine ⟨v, by simpa using a, by simpa using .skip b, ?_⟩
      rw [List.set_cons_succ, slotsR_skip, slotsR_skip]
      exact c
  | @keep w u σ ρ h ih =>
    intro i e
    cases i with
    | zero =>
      simp at e
      subst e
      refine ⟨w, rfl, .skip h, ?_⟩
      rw [List.set_cons_zero, slotsR_skip]
      exact .refl _
    | succ i =>
      obtain ⟨v, a, b, c⟩ := ih (i := i) (by simpa using e)
      refine ⟨v, by simpa using a, by simpa using .keep b, ?_⟩
      rw [List.set_cons_succ]
      show ((w, u) :: slotsR σ ρ).Perm ((v, o) :: (w, u) :: slotsR σ (ρ.set i none))
      exact (c.cons (w, u)).trans (List.Perm.swap _ _ _)
theorem slots_put {σ : L2.St} {ρ : Store} {v : V} {o : O} (h : SlotsOk σ ρ) : ∀ {i : Nat}, i < σ.length →
    SlotsOk (σ.set i (some v)) (ρ.set i (some o)) ∧ ∃ X, ((v, o) :: slotsR σ ρ).Perm (X ++ slotsR (σ.set i (some v)) (ρ.set i (some o))) := by
  induction h with
  | nil => intro i e; simp at e
  | @skip x σ ρ h ih =>
    intro i e
    cases i with
    | zero =>
      refine ⟨.keep h, [], ?_⟩
      rw [slotsR_skip]
      exact .refl _
    | succ i =>
      obtain ⟨a, X, c⟩ := ih (i := i) (by simpa using e)
      refine ⟨.skip a, X, ?_⟩
      rw [List.set_cons_succ, List.set_cons_succ, slotsR_skip, slotsR_skip]
      exact c
  | @keep w u σ ρ h ih =>
    intro i e
    cases i with
    | zero => exact ⟨.keep h, [(w, u)], List.Perm.swap _ _ _⟩
    | succ i =>
      obtain ⟨a, X, c⟩ := ih (i := i) (by simpa using e)
      refine ⟨.keep a, X, ?_⟩
      rw [List.set_cons_succ, List.set_cons_succ]
      show ((v, o) :: (w, u) :: slotsR σ ρ).Perm (X ++ ((w, u) :: slotsR (σ.set i (some v)) (ρ.set i (some o))))
      exact (List.Perm.swap _ _ _).trans ((c.cons (w, u)).trans List.perm_middle.symm)
theorem slots_none {σ : L2.St} {ρ : Store} (h : SlotsOk σ ρ) : ∀ {i : Nat}, SlotsOk σ (ρ.set i none) ∧ ∃ X, (slotsR σ ρ).Perm (X ++ slotsR σ (ρ.set i none)) := by
  induction h with
  | nil => intro i; exact ⟨.nil, [], .refl _⟩
  | @skip x σ ρ h ih =>
    intro i
    cases i with
    | zero => exact ⟨.skip h, [], .refl _⟩
    | succ i =>
      obtain ⟨a, X, c⟩ := ih (i := i)
      refine ⟨.skip a, X, ?_⟩
      rw [List.set_cons_succ, slotsR_skip, slotsR_skip]
      exact c
  | @keep w u σ ρ h ih =>
    intro i
    cases i with
    | zero =>
      refine ⟨.skip h, [(w, u)], ?_⟩
      rw [List.set_cons_zero, slotsR_skip]
      exact .refl _
    | succ i =>
      obtain ⟨a, X, c⟩ := ih (i := i)
      refine ⟨.keep a, X, ?_⟩
      rw [List.set_cons_succ]
      exact (c.cons (w, u)).trans List.perm_middle.symm
theorem slots_mem {σ : L2.St} {ρ : Store} {o : O} {v : V} (h : SlotsOk σ ρ) {i : Nat} (e : ρ[i]? = some (some o)) (s : σ[i]? = some (some v)) : (v, o) ∈ slotsR σ ρ := by
  obtain ⟨w, a, _, p⟩ := slots_take h e
  rw [s] at a
  cases a
  exact p.mem_iff.mpr List.mem_cons_self

/-- a def's frame: what it entered with, its slots then -/
structure Fr where
  c : Ent
  s0 : L2.St
/-- the state of a def's body: the slots hold what ρ says (those that P names are as at the entry), besides the things T -/
structure SR (Γ : Gb) (P : Nat → Bool) (f : Fr) (σ : L2.St) (ρ : Store) (T : List (V × O)) (H : Hp) : Prop where
  ok : SlotsOk σ ρ
  fix : ∀ j, P j = true → σ[j]? = f.s0[j]?
  rs : RS Γ f.c (slotsR σ ρ ++ T) H
section
variable {Γ : Gb} {P : Nat → Bool} {f : Fr} {σ : L2.St} {ρ : Store} {T T' : List (V × O)} {H : Hp} {v : V} {o : O} {i : Nat}
theorem SR.mapT (h : SR Γ P f σ ρ T H) {H' : Hp} (k : ∀ R, RS Γ f.c (T ++ R) H → RS Γ f.c (T' ++ R) H') : SR Γ P f σ ρ T' H' :=
  ⟨h.ok, h.fix, (k _ (h.rs.perm List.perm_append_comm)).perm List.perm_append_comm⟩
theorem SR.drop (h : SR Γ P f σ ρ ((v, o) :: T) H) : SR Γ P f σ ρ T H := h.mapT fun _ q => q.drop
theorem SR.dropL (h : SR Γ P f σ ρ (T' ++ T) H) : SR Γ P f σ ρ T H := h.mapT fun R q => by
  rw [List.append_assoc] at q
  exact q.dropL
theorem SR.permT (h : SR Γ P f σ ρ T H) (p : T.Perm T') : SR Γ P f σ ρ T' H := ⟨h.ok, h.fix, h.rs.perm (p.append_left _)⟩
theorem SR.fz (h : SR Γ P f σ ρ ((v, o) :: T) H) : SR Γ P f σ ρ ((v, .sh (Den.fz o)) :: T) H := h.mapT fun _ q => q.freeze
theorem SR.pure {d : D} (h : SR Γ P f σ ρ T H) (r : ∀ S, Rep Γ S v d) : SR Γ P f σ ρ ((v, .sh d) :: T) H := h.mapT fun _ q => q.pure r
/-- a slot's thing is taken out -/
theorem SR.take (h : SR Γ P f σ ρ T H) (e : ρ[i]? = some (some o)) : ∃ v, σ[i]? = some (some v) ∧ SR Γ P f σ (ρ.set i none) ((v, o) :: T) H := by
  obtain ⟨v, a, b, p⟩ := slots_take h.ok e
  exact ⟨v, a, b, h.fix, h.rs.perm ((p.append_right T).trans List.perm_middle.symm)⟩
/-- a thing is put into a slot -/
theorem SR.set (h : SR Γ P f σ ρ ((v, o) :: T) H) (hi : i < σ.length) (hp : P i = false) : SR Γ P f (σ.set i (some v)) (ρ.set i (some o)) T H := by
  obtain ⟨a, X, p⟩ := slots_put (v := v) (o := o) h.ok hi
  refine ⟨a, fun j hj => ?_, ?_⟩
  · rw [List.getElem?_set_ne (fun z => by rw [z, hj] at hp; cases hp)]
    exact h.fix j hj
  · have q : (slotsR σ ρ ++ (v, o) :: T).Perm (X ++ (slotsR (σ.set i (some v)) (ρ.set i (some o)) ++ T)) := List.perm_middle.trans ((p.append_right T).trans (by rw [List.append_assoc]))
    exact (h.rs.perm q).dropL
/-- a thing is put back into its slot -/
theorem SR.back (h : SR Γ P f σ ρ ((v, o) :: T) H) (hs : σ[i]? = some (some v)) : SR Γ P f σ (ρ.set i (some o)) T H := by
  have hi : i < σ.length := (List.getElem?_eq_some_iff.mp hs).1
  have e : σ.set i (some v) = σ := by
    have z := List.getElem?_eq_some_iff.mp hs
    rw [← z.2]
    exact List.set_getElem_self _
  obtain ⟨a, X, p⟩ := slots_put (v := v) (o := o) h.ok hi
  rw [e] at a p
  refine ⟨a, h.fix, ?_⟩
  have q : (slotsR σ ρ ++ (v, o) :: T).Perm (X ++ (slotsR σ (ρ.set i (some o)) ++ T)) := List.perm_middle.trans ((p.append_right T).trans (by rw [List.append_assoc]))
  exact (h.rs.perm q).dropL
theorem SR.clear (h : SR Γ P f σ ρ T H) : SR Γ P f σ (ρ.set i none) T H := by
  obtain ⟨a, X, p⟩ := slots_none (i := i) h.ok
  refine ⟨a, h.fix, ?_⟩
  have q : (slotsR σ ρ ++ T).Perm (X ++ (slotsR σ (ρ.set i none) ++ T)) := (p.append_right T).trans (by rw [List.append_assoc])
  exact (h.rs.perm q).dropL
theorem SR.lenS (h : SR Γ P f σ ρ T H) : σ.length = ρ.length := h.ok.len
end

/-! ### outcomes -/
inductive Xc where
  | own (n : Nat) | ty (s : String)
def Xc.val (Γ : Gb) : Xc → Value
  | .own n => .ref (Γ.cls n)
  | .ty s => .type s
structure Xn where
  cls : Xc
  fs : Option (List (Str × D))
inductive Res (α : Type) where
  | ok (a : α) (ρ : Store) | exc (x : Xn) (ρ : Store) | stuck
def Res.bind {α β : Type} : Res α → (α → Store → Res β) → Res β
  | .ok a ρ, g => g a ρ
  | .exc x ρ, _ => .exc x ρ
  | .stuck, _ => .stuck
abbrev aE := Store → Res O
abbrev aT := Store → Res Bool
def XR (Γ : Gb) (P : Nat → Bool) (f : Fr) (σ : L2.St) (ρ : Store) (T : List (V × O)) (x : Xn) (cls : Value) (d : Option Addr) (H : Hp) : Prop :=
  cls = x.cls.val Γ ∧ match x.fs with
    | none => d = none ∧ SR Γ P f σ ρ T H
    | some fs => ∃ dd, d = some dd ∧ SR Γ P f σ ρ ((.ref dd, .sh (.xd fs)) :: T) H
section
variable {Γ : Gb} {P : Nat → Bool} {f : Fr} {σ : L2.St} {ρ : Store} {T T' : List (V × O)} {H : Hp} {v : V} {o : O} {i : Nat} {x : Xn} {cls : Value} {d : Option Addr}
theorem XR.drop (h : XR Γ P f σ ρ ((v, o) :: T) x cls d H) : XR Γ P f σ ρ T x cls d H := by
  obtain ⟨e, h⟩ := h
  refine ⟨e, ?_⟩
  obtain ⟨c, fs⟩ := x
  cases fs with
  | none => exact ⟨h.1, h.2.drop⟩
  | some fs =>
    obtain ⟨dd, a, b⟩ := h
    exact ⟨dd, a, (b.permT (List.Perm.swap _ _ _)).drop⟩
theorem XR.dropL (h : XR Γ P f σ ρ (T' ++ T) x cls d H) : XR Γ P f σ ρ T x cls d H := by
  induction T' with
  | nil => exact h
  | cons p T' ih => exact ih (XR.drop (v := p.1) (o := p.2) h)
end
def Good {α : Type} (Γ : Gb) (P : Nat → Bool) (W : WX) (f : Fr) (σ : L2.St) (T : List (V × O)) (k : α → Store → Prop) : Res α → Prop
  | .ok a ρ => k a ρ
  | .exc x ρ => ∀ cls d H, XR Γ P f σ ρ T x cls d H → W cls d σ H
  | .stuck => False
section
variable {α β : Type} {Γ : Gb} {P : Nat → Bool} {W : WX} {f : Fr} {σ : L2.St} {T T' : List (V × O)} {k k' : α → Store → Prop} {r : Res α}
theorem Good.imp (h : Good Γ P W f σ T k r) (q : ∀ a ρ, k a ρ → k' a ρ) : Good Γ P W f σ T k' r := by
  cases r with
  | ok a ρ => exact q _ _ h
  | exc x ρ => exact h
  | stuck => exact h
theorem Good.bind {g : α → Store → Res β} {k : β → Store → Prop} (h : Good Γ P W f σ T k (r.bind g)) : Good Γ P W f σ T (fun a ρ => Good Γ P W f σ T k (g a ρ)) r := by
  cases r with
  | ok a ρ => exact h
  | exc x ρ => exact h
  | stuck => exact h
theorem Good.more (h : Good Γ P W f σ T k r) : Good Γ P W f σ (T' ++ T) k r := by
  cases r with
  | ok a ρ => exact h
  | exc x ρ => exact fun cls d H q => h cls d H q.dropL
  | stuck => exact h
end
/-! ### what a reading is worth -/
def Sx (Γ : Gb) (P : Nat → Bool) (W : WX) (te : TE) (g : aE) : Prop := ∀ f σ ρ T H Q, SR Γ P f σ ρ T H →
  Good Γ P W f σ T (fun o ρ' => ∀ v H', SR Γ P f σ ρ' ((v, o) :: T) H' → Q v H') (g ρ) → te σ H Q
def Sxt (Γ : Gb) (P : Nat → Bool) (W : WX) (tt : TT) (g : aT) : Prop := ∀ f σ ρ T H Q, SR Γ P f σ ρ T H →
  Good Γ P W f σ T (fun b ρ' => ∀ H', SR Γ P f σ ρ' T H' → Q b H') (g ρ) → tt σ H Q
inductive Od where
  | pl (i : Nat) | ex (g : aE)
inductive Rv where
  | o (o : O) | p (i : Nat)
def evA : List Od → Store → Res (List Rv)
  | [], ρ => .ok [] ρ
  | .pl i :: r, ρ => match ρ[i]? with
    | some (some _) => (evA r ρ).bind fun rs ρ' => .ok (.p i :: rs) ρ'
    | _ => .stuck
  | .ex g :: r, ρ => (g ρ).bind fun o ρ1 => (evA r ρ1).bind fun rs ρ2 => .ok (.o o :: rs) ρ2
inductive Mt (σ : L2.St) : List (V × O) → List V → List Rv → Prop
  | nil : Mt σ [] [] []
  | ex {v : V} {o : O} {T : List (V × O)} {vs : List V} {rs : List Rv} : Mt σ T vs rs → Mt σ (T ++ [(v, o)]) (v :: vs) (.o o :: rs)
  | pl {v : V} {i : Nat} {T : List (V × O)} {vs : List V} {rs : List Rv} : σ[i]? = some (some v) → Mt σ T vs rs → Mt σ T (v :: vs) (.p i :: rs)
def Sa (Γ : Gb) (P : Nat → Bool) (W : WX) (ta : TA) (ods : List Od) : Prop := ∀ f σ ρ T H R, SR Γ P f σ ρ T H →
  Good Γ P W f σ T (fun rs ρ' => ∀ vs T' H', Mt σ T' vs rs → SR Γ P f σ ρ' (T' ++ T) H' → R vs H') (evA ods ρ) → ta σ H R
section
variable {Γ : Gb} {P : Nat → Bool} {W : WX} {te : TE} {ta : TA} {g : aE} {ods : List Od} {i : Nat}
theorem sa_nil : Sa Γ P W tNil [] := fun f σ ρ T H R h k => k [] [] H .nil h
theorem sa_ex (h1 : Sx Γ P W te g) (h2 : Sa Γ P W ta ods) : Sa Γ P W (tCons te ta) (.ex g :: ods) := fun f σ ρ T H R h k => by
  have k1 : Good Γ P W f σ T _ (g ρ) := Good.bind k
  refine h1 f σ ρ T H _ h (k1.imp fun o ρ1 k2 v H1 s1 => ?_)
  have k3 := (Good.bind k2).more (T' := [(v, o)])
  refine h2 f σ ρ1 ((v, o) :: T) H1 _ s1 (k3.imp fun rs ρ2 k4 vs T' H2 m s2 => ?_)
  refine k4 (v :: vs) (T' ++ [(v, o)]) H2 (.ex m) ?_
  rw [List.append_assoc]
  exact s2
theorem sa_pl (h2 : Sa Γ P W ta ods) : Sa Γ P W (tCons (tVar i) ta) (.pl i :: ods) := fun f σ ρ T H R h k => by
  unfold evA at k
  split at k
  · rename_i o e
    obtain ⟨v, hv, _⟩ := h.take e
    refine ⟨v, hv, h2 f σ ρ T H _ h ((Good.bind k).imp fun rs ρ2 k4 vs T' H2 m s2 => ?_)⟩
    exact k4 (v :: vs) T' H2 (.pl hv m) s2
  · exact k.elim
end
def rsv (ρ : Store) : List Rv → Option (List O)
  | [] => some []
  | .o o :: r => (rsv ρ r).map (o :: ·)
  | .p i :: r => match ρ[i]? with
    | some (some o) => (rsv ρ r).map (o :: ·)
    | _ => none
theorem rsv_ok {Γ : Gb} {P : Nat → Bool} {f : Fr} {σ : L2.St} {ρ : Store} {H : Hp} {T' : List (V × O)} {vs : List V} {rs : List Rv} (m : Mt σ T' vs rs) : ∀ {T : List (V × O)} {os : List O}, SR Γ P f σ ρ (T' ++ T) H → rsv ρ rs = some os →
    ∃ ps : List (V × O), ps.map Prod.fst = vs ∧ ps.map Prod.snd = os ∧ ∀ p ∈ ps, p ∈ slotsR σ ρ ++ (T' ++ T) := by
  induction m with
  | nil =>
    intro T os h e
    cases e
    exact ⟨[], rfl, rfl, fun p m => by cases m⟩
  | @ex v o T1 vs rs m ih =>
    intro T os h e
    simp only [rsv, Option.map_eq_some_iff] at e
    obtain ⟨os', e, rfl⟩ := e
    rw [List.append_assoc] at h
    obtain ⟨ps, a, b, c⟩ := ih h e
    refine ⟨(v, o) :: ps, by simp [a], by simp [b], fun p hp => ?_⟩
    rcases List.mem_cons.mp hp with rfl | hp
    · simp
    · rw [List.append_assoc]
      exact c p hp
  | @pl v i T1 vs rs hv m ih =>
    intro T os h e
    unfold rsv at e
    split at e
    · rename_i o eo
      simp only [Option.map_eq_some_iff] at e
      obtain ⟨os', e, rfl⟩ := e
      obtain ⟨ps, a, b, c⟩ := ih h e
      refine ⟨(v, o) :: ps, by simp [a], by simp [b], fun p hp => ?_⟩
      rcases List.mem_cons.mp hp with rfl | hp
      · exact List.mem_append_left _ (slots_mem h.ok eo hv)
      · exact c p hp
    · cases e
/-- an operation upon values that are held: what it gives is held besides -/
def OpOk (Γ : Gb) (r : List V → Hp → VK → Prop) (g : List O → Option O) : Prop := ∀ c R H (ps : List (V × O)) o Q, RS Γ c R H → (∀ p ∈ ps, p ∈ R) → g (ps.map Prod.snd) = some o →
  (∀ v H', RS Γ c ((v, o) :: R) H' → Q v H') → r (ps.map Prod.fst) H Q
def aOp (ods : List Od) (g : List O → Option O) : aE := fun ρ => (evA ods ρ).bind fun rs ρ' => match rsv ρ' rs with
  | some os => match g os with
    | some o => .ok o ρ'
    | none => .stuck
  | none => .stuck
theorem sx_op {Γ : Gb} {P : Nat → Bool} {W : WX} {ta : TA} {ods : List Od} {r : List V → Hp → VK → Prop} {g : List O → Option O} (ha : Sa Γ P W ta ods) (hr : OpOk Γ r g) :
    Sx Γ P W (fun σ H Q => ta σ H fun vs H1 => r vs H1 Q) (aOp ods g) := fun f σ ρ T H Q h k => by
  refine ha f σ ρ T H _ h ((Good.bind k).imp fun rs ρ' k vs T' H' m s => ?_)
  split at k
  · rename_i os eo
    split at k
    · rename_i o eg
      obtain ⟨ps, rfl, rfl, mem⟩ := rsv_ok m s eo
      refine hr f.c _ H' ps o Q s.rs mem eg fun v H2 q => k v H2 ?_
      have z : SR Γ P f σ ρ' ((v, o) :: (T' ++ T)) H2 := ⟨s.ok, s.fix, q.perm List.perm_middle.symm⟩
      exact (z.permT (T' := T' ++ (v, o) :: T) List.perm_middle.symm).dropL
    · exact k.elim
  · exact k.elim
end Den
end
section
/-! Den, part C: what values are told by, operations upon values. -/
namespace Den
open PySem L2
section
variable {Γ : Gb} {S H : Hp}
theorem RepL.len : ∀ {xs : List V} {ds : List D}, RepL Γ S xs ds → xs.length = ds.length
  | _, _, .nil => rfl
  | _, _, .cons _ t => by simp [RepL.len t]
theorem RepL.append : ∀ {xs ys : List V} {ds es : List D}, RepL Γ S xs ds → RepL Γ S ys es → RepL Γ S (xs ++ ys) (ds ++ es)
  | _, _, _, _, .nil, s => s
  | _, _, _, _, .cons r t, s => .cons r (RepL.append t s)
theorem RepL.drop : ∀ {xs : List V} {ds : List D} (n : Nat), RepL Γ S xs ds → RepL Γ S (xs.drop n) (ds.drop n)
  | _, _, 0, r => r
  | _, _, _ + 1, .nil => .nil
  | _, _, n + 1, .cons _ t => RepL.drop n t
theorem RepL.take : ∀ {xs : List V} {ds : List D} (n : Nat), RepL Γ S xs ds → RepL Γ S (xs.take n) (ds.take n)
  | _, _, 0, _ => .nil
  | _, _, _ + 1, .nil => .nil
  | _, _, n + 1, .cons r t => .cons r (RepL.take n t)
theorem RepL.get : ∀ {xs : List V} {ds : List D} {i : Nat} {d : D}, RepL Γ S xs ds → ds[i]? = some d → ∃ v, xs[i]? = some v ∧ Rep Γ S v d
  | _, _, _, _, .nil, e => by simp at e
  | _, _, 0, _, .cons r _, e => by
    simp at e
    subst e
    exact ⟨_, rfl, r⟩
  | _, _, i + 1, _, .cons _ t, e => by
    obtain ⟨v, a, b⟩ := RepL.get t (i := i) (by simpa using e)
    exact ⟨v, by simpa using a, b⟩
theorem RepL.ints : ∀ {xs : List V} {ns : List Int}, RepL Γ S xs (ns.map D.int) → xs = ns.map V.int
  | xs, [], h => by cases h; rfl
  | xs, n :: ns, h => by
    cases h with
    | cons r t =>
      cases r
      rw [List.map_cons, RepL.ints t]
theorem RepL.strs : ∀ {xs : List V} {ns : List Str}, RepL Γ S xs (ns.map D.str) → xs = ns.map V.str
  | xs, [], h => by cases h; rfl
  | xs, n :: ns, h => by
    cases h with
    | cons r t =>
      cases r
      rw [List.map_cons, RepL.strs t]
theorem RepL.bools : ∀ {xs : List V} {ns : List Bool}, RepL Γ S xs (ns.map D.bl) → xs = ns.map V.bl
  | xs, [], h => by cases h; rfl
  | xs, n :: ns, h => by
    cases h with
    | cons r t =>
      cases r
      rw [List.map_cons, RepL.bools t]
theorem repL_ints : ∀ {ns : List Int}, RepL Γ S (ns.map V.int) (ns.map D.int)
  | [] => .nil
  | n :: ns => .cons (.int n) repL_ints
theorem repL_strs : ∀ {ns : List Str}, RepL Γ S (ns.map V.str) (ns.map D.str)
  | [] => .nil
  | n :: ns => .cons (.str n) repL_strs
end

/-- all are shared -/
def shs : List O → Option (List D)
  | [] => some []
  | .sh d :: r => (shs r).map (d :: ·)
  | _ :: _ => none
theorem shs_some : ∀ {os : List O} {ds : List D}, shs os = some ds → os = ds.map O.sh
  | [], _, e => by cases e; rfl
  | .sh d :: r, _, e => by
    simp only [shs, Option.map_eq_some_iff] at e
    obtain ⟨ds, e, rfl⟩ := e
    rw [shs_some e, List.map_cons]
theorem shs_map : ∀ ds : List D, shs (ds.map O.sh) = some ds
  | [] => rfl
  | d :: ds => by rw [List.map_cons, shs, shs_map ds, Option.map_some]
theorem fzL_sh : ∀ ds : List D, fzL (ds.map O.sh) = ds
  | [] => rfl
  | d :: ds => by rw [List.map_cons, fzL, fzL_sh ds, fz]
/-- a list's items, all shared -/
def lstD : O → Option (List D)
  | .sh (.lst ds) => some ds
  | .lst os => shs os
  | _ => none
/-- a tuple of its own making, never one that was written -/
def tupS : O → Option (List D)
  | .sh (.tup ds) => some ds
  | _ => none
def tupD : O → Option (List D)
  | .sh (.tup ds) => some ds
  | .sh (.ktp ds) => some ds
  | _ => none
section
variable {Γ : Gb} {S H : Hp} {v : V} {o : O} {F : List Addr} {ds : List D}
theorem ORL.repL : ∀ {rs : List (V × O)} {ds : List D} {F : List Addr}, ORL Γ S H rs F → rs.map Prod.snd = ds.map O.sh → RepL Γ S (rs.map Prod.fst) ds
  | [], ds, _, h, e => by
    cases ds with
    | nil => exact .nil
    | cons _ _ => cases e
  | (v, o) :: rs, ds, _, h, e => by
    cases ds with
    | nil => cases e
    | cons d ds =>
      cases h with
      | cons r t =>
        simp only [List.map_cons, List.cons.injEq] at e
        obtain ⟨e1, e2⟩ := e
        subst e1
        cases r with
        | sh r => exact .cons r (ORL.repL t e2)
theorem lst_at (r : OR Γ S H v o F) (sb : Sub S H) (e : lstD o = some ds) : ∃ a xs, v = .ref a ∧ H a = some (.lst xs) ∧ RepL Γ S xs ds := by
  unfold lstD at e
  split at e
  · cases e
    cases r with
    | sh r =>
      cases r with
      | lst ha hl => exact ⟨_, _, rfl, (sb _ _ ha).1, hl⟩
  · cases r with
    | lst ha hl e' =>
      have z := shs_some e
      rw [e'] at z
      exact ⟨_, _, rfl, ha, hl.repL z⟩
  · cases e
theorem tupD_sh (e : tupD o = some ds) : o = .sh (.tup ds) ∨ o = .sh (.ktp ds) := by
  unfold tupD at e
  split at e
  · cases e; exact .inl rfl
  · cases e; exact .inr rfl
  · cases e
theorem tup_at (r : OR Γ S H v o F) (sb : Sub S H) (e : tupD o = some ds) : ∃ a xs, v = .ref a ∧ SqT Γ.K H a xs ∧ RepL Γ S xs ds := by
  rcases tupD_sh e with e | e
  · rw [e] at r
    cases r with
    | sh r => cases r with
      | tup ha hl => exact ⟨_, _, rfl, .inl (.of (sb _ _ ha).1), hl⟩
  · rw [e] at r
    cases r with
    | sh r => cases r with
      | ktp ha hl => exact ⟨_, _, rfl, sqT_mono (fun a o e => (sb a o e).1) ha, hl⟩
theorem tupS_sh (e : tupS o = some ds) : o = .sh (.tup ds) := by
  unfold tupS at e
  split at e
  · cases e; rfl
  · cases e
theorem tupS_D (e : tupS o = some ds) : tupD o = some ds := by
  rw [tupS_sh e]
  rfl
end
section
variable {Γ : Gb} {c : Ent} {R : List (V × O)} {H : Hp} {v : V} {o : O} {ds : List D}
theorem RS.sh (h : RS Γ c R H) {d : D} (m : (v, O.sh d) ∈ R) : ∃ S, Sub S H ∧ Rep Γ S v d := by
  obtain ⟨S, sb, rd, _⟩ := h.readS
  obtain ⟨F, x⟩ := rd _ m
  cases x with
  | sh r => exact ⟨S, sb, r⟩
theorem RS.int (h : RS Γ c R H) {i : Int} (m : (v, O.sh (.int i)) ∈ R) : v = .int i := by
  obtain ⟨S, sb, r⟩ := h.sh m
  cases r
  rfl
theorem RS.str (h : RS Γ c R H) {i : Str} (m : (v, O.sh (.str i)) ∈ R) : v = .str i := by
  obtain ⟨S, sb, r⟩ := h.sh m
  cases r
  rfl
theorem RS.bl (h : RS Γ c R H) {i : Bool} (m : (v, O.sh (.bl i)) ∈ R) : v = .bl i := by
  obtain ⟨S, sb, r⟩ := h.sh m
  cases r
  rfl
theorem RS.non (h : RS Γ c R H) (m : (v, O.sh .non) ∈ R) : v = .non := by
  obtain ⟨S, sb, r⟩ := h.sh m
  cases r
  rfl
/-- a list read: what it gives may be held, singly, as a new list, as a new tuple -/
structure Had (Γ : Gb) (c : Ent) (R : List (V × O)) (H : Hp) (xs : List V) (ds : List D) : Prop where
  ex : ∃ S, Sub S H ∧ RepL Γ S xs ds ∧ (∀ w e, Rep Γ S w e → RS Γ c ((w, .sh e) :: R) H) ∧ ∀ xs ds, RepL Γ S xs ds → RS Γ c (xs.zip (ds.map O.sh) ++ R) H
theorem Had.len {xs : List V} (h : Had Γ c R H xs ds) : xs.length = ds.length := by
  obtain ⟨S, _, r, _⟩ := h.ex
  exact r.len
theorem zip_fst : ∀ {xs : List V} {ds : List D}, xs.length = ds.length → (xs.zip (ds.map O.sh)).map Prod.fst = xs
  | [], [], _ => rfl
  | x :: xs, d :: ds, e => by
    rw [List.map_cons, List.zip_cons_cons, List.map_cons, zip_fst (by simpa using e)]
theorem zip_snd : ∀ {xs : List V} {ds : List D}, xs.length = ds.length → (xs.zip (ds.map O.sh)).map Prod.snd = ds.map O.sh
  | [], [], _ => rfl
  | x :: xs, d :: ds, e => by
    rw [List.map_cons, List.zip_cons_cons, List.map_cons, zip_snd (by simpa using e)]
theorem Had.newL {xs : List V} (h : Had Γ c R H xs ds) {p : Addr} (hp : H p = none) : RS Γ c ((.ref p, .lst (ds.map O.sh)) :: R) (upd H p (.lst xs)) := by
  obtain ⟨S, sb, r, _, ad⟩ := h.ex
  have q := (ad xs ds r).newL hp
  rw [zip_fst r.len, zip_snd r.len] at q
  exact q
theorem repL_zip {S : Hp} : ∀ {xs : List V} {ds : List D}, xs.length = ds.length → (∀ p ∈ xs.zip (ds.map O.sh), ∃ F, OR Γ S H p.1 p.2 F) → RepL Γ S xs ds
  | [], [], _, _ => .nil
  | x :: xs, d :: ds, e, h => by
    obtain ⟨F, r⟩ := h (x, .sh d) (by simp)
    cases r with
    | sh r => exact .cons r (repL_zip (by simpa using e) fun p m => h p (by simp; exact .inr (by simpa using m)))
theorem RS.newT {xs : List V} (h : RS Γ c (xs.zip (ds.map O.sh) ++ R) H) (hl : xs.length = ds.length) {p : Addr} (hp : H p = none) : RS Γ c ((.ref p, .sh (.tup ds)) :: R) (upd H p (.tup xs)) := by
  have q := (h.new hp (u := .tup xs) noT_tup).letgo
  have z := q.addT (b := p) (xs := xs) (ds := ds) upd_same fun S' _ k => repL_zip hl fun y m => k y (List.mem_append_left _ m)
  exact (z.perm List.perm_middle.symm).dropL
theorem Had.newT {xs : List V} (h : Had Γ c R H xs ds) {p : Addr} (hp : H p = none) : RS Γ c ((.ref p, .sh (.tup ds)) :: R) (upd H p (.tup xs)) := by
  obtain ⟨S, sb, r, _, ad⟩ := h.ex
  exact (ad xs ds r).newT r.len hp
theorem Had.get {xs : List V} (h : Had Γ c R H xs ds) {i : Nat} {d : D} (e : ds[i]? = some d) : ∃ w, xs[i]? = some w ∧ RS Γ c ((w, .sh d) :: R) H := by
  obtain ⟨S, sb, r, ad, _⟩ := h.ex
  obtain ⟨w, a, b⟩ := r.get e
  exact ⟨w, a, ad w d b⟩
theorem Had.drop {xs : List V} (h : Had Γ c R H xs ds) (n : Nat) : Had Γ c R H (xs.drop n) (ds.drop n) := by
  obtain ⟨S, sb, r, q⟩ := h.ex
  exact ⟨S, sb, r.drop n, q⟩
theorem Had.take {xs : List V} (h : Had Γ c R H xs ds) (n : Nat) : Had Γ c R H (xs.take n) (ds.take n) := by
  obtain ⟨S, sb, r, q⟩ := h.ex
  exact ⟨S, sb, r.take n, q⟩
theorem RS.lst (h : RS Γ c R H) (m : (v, o) ∈ R) (e : lstD o = some ds) : ∃ a xs, v = .ref a ∧ H a = some (.lst xs) ∧ Had Γ c R H xs ds := by
  obtain ⟨S, sb, rd, ad⟩ := h.readS
  obtain ⟨F, x⟩ := rd _ m
  obtain ⟨a, xs, p, q, r⟩ := lst_at x sb e
  exact ⟨a, xs, p, q, ⟨S, sb, r, ad⟩⟩
theorem RS.tup (h : RS Γ c R H) (m : (v, o) ∈ R) (e : tupD o = some ds) : ∃ a xs, v = .ref a ∧ SqT Γ.K H a xs ∧ Had Γ c R H xs ds := by
  obtain ⟨S, sb, rd, ad⟩ := h.readS
  obtain ⟨F, x⟩ := rd _ m
  obtain ⟨a, xs, p, q, r⟩ := tup_at x sb e
  exact ⟨a, xs, p, q, ⟨S, sb, r, ad⟩⟩
theorem RS.lst2 (h : RS Γ c R H) {v2 : V} {o2 : O} {es : List D} (m : (v, o) ∈ R) (e : lstD o = some ds) (m2 : (v2, o2) ∈ R) (e2 : lstD o2 = some es) :
    ∃ a xs b ys, v = .ref a ∧ H a = some (.lst xs) ∧ v2 = .ref b ∧ H b = some (.lst ys) ∧ xs.length = ds.length ∧ ys.length = es.length ∧ Had Γ c R H (xs ++ ys) (ds ++ es) := by
  obtain ⟨S, sb, rd, ad⟩ := h.readS
  obtain ⟨F, x⟩ := rd _ m
  obtain ⟨a, xs, p, q, r⟩ := lst_at x sb e
  obtain ⟨F2, x2⟩ := rd _ m2
  obtain ⟨b, ys, p2, q2, r2⟩ := lst_at x2 sb e2
  exact ⟨a, xs, b, ys, p, q, p2, q2, r.len, r2.len, ⟨S, sb, r.append r2, ad⟩⟩
theorem RS.tup2 (h : RS Γ c R H) {v2 : V} {o2 : O} {es : List D} (m : (v, o) ∈ R) (e : tupD o = some ds) (m2 : (v2, o2) ∈ R) (e2 : tupD o2 = some es) :
    ∃ a xs b ys, v = .ref a ∧ SqT Γ.K H a xs ∧ v2 = .ref b ∧ SqT Γ.K H b ys ∧ xs.length = ds.length ∧ ys.length = es.length ∧ Had Γ c R H (xs ++ ys) (ds ++ es) := by
  obtain ⟨S, sb, rd, ad⟩ := h.readS
  obtain ⟨F, x⟩ := rd _ m
  obtain ⟨a, xs, p, q, r⟩ := tup_at x sb e
  obtain ⟨F2, x2⟩ := rd _ m2
  obtain ⟨b, ys, p2, q2, r2⟩ := tup_at x2 sb e2
  exact ⟨a, xs, b, ys, p, q, p2, q2, r.len, r2.len, ⟨S, sb, r.append r2, ad⟩⟩
/-- an item of a list, of its own or shared, that is shared -/
theorem RS.item {os : List O} (h : RS Γ c R H) (m : (v, O.lst os) ∈ R) : ∃ a xs, v = .ref a ∧ H a = some (.lst xs) ∧ xs.length = os.length ∧ ∀ (i : Nat) (d : D), os[i]? = some (O.sh d) → ∃ w, xs[i]? = some w ∧ RS Γ c ((w, .sh d) :: R) H := by
  obtain ⟨S, sb, rd, ad, _⟩ := h.readS
  obtain ⟨F, x⟩ := rd _ m
  cases x with
  | @lst a rs _ F ha hl e =>
    refine ⟨a, _, rfl, ha, by rw [e, List.length_map, List.length_map], fun i d q => ?_⟩
    rw [e, List.getElem?_map, Option.map_eq_some_iff] at q
    obtain ⟨⟨u, o'⟩, hp, q⟩ := q
    obtain rfl : o' = O.sh d := q
    obtain ⟨G, x, _⟩ := hl.mem (List.mem_of_getElem? hp)
    exact ⟨u, by rw [List.getElem?_map, hp]; rfl, ad _ _ (by cases x with | sh r => exact r)⟩
end

/-! ### operations by one, two, three values -/
def Op1 (Γ : Gb) (r : V → Hp → VK → Prop) (g : O → Option O) : Prop := ∀ c R H x ox w Q, RS Γ c R H → (x, ox) ∈ R → g ox = some w → (∀ v H', RS Γ c ((v, w) :: R) H' → Q v H') → r x H Q
def Op2 (Γ : Gb) (r : R2) (g : O → O → Option O) : Prop := ∀ c R H x ox y oy w Q, RS Γ c R H → (x, ox) ∈ R → (y, oy) ∈ R → g ox oy = some w → (∀ v H', RS Γ c ((v, w) :: R) H' → Q v H') → r x y H Q
def l1 (g : O → Option O) : List O → Option O
  | [a] => g a
  | _ => none
def l2 (g : O → O → Option O) : List O → Option O
  | [a, b] => g a b
  | _ => none
def r1L (r : V → Hp → VK → Prop) : List V → Hp → VK → Prop
  | [x], H, Q => r x H Q
  | _, _, _ => False
def r2L (r : R2) : List V → Hp → VK → Prop
  | [x, y], H, Q => r x y H Q
  | _, _, _ => False
section
variable {Γ : Gb} {P : Nat → Bool} {W : WX} {ta tb : TE} {oa ob : Od}
theorem Op1.ok {r : V → Hp → VK → Prop} {g : O → Option O} (h : Op1 Γ r g) : OpOk Γ (r1L r) (l1 g) := by
  intro c R H ps o Q hR mem e k
  match ps, e with
  | [(x, ox)], e => exact h c R H x ox o Q hR (mem _ (by simp)) e k
theorem Op2.ok {r : R2} {g : O → O → Option O} (h : Op2 Γ r g) : OpOk Γ (r2L r) (l2 g) := by
  intro c R H ps o Q hR mem e k
  match ps, e with
  | [(x, ox), (y, oy)], e => exact h c R H x ox y oy o Q hR (mem _ (by simp)) (mem _ (by simp)) e k
theorem sx_op1 {r : V → Hp → VK → Prop} {g : O → Option O} (ha : Sa Γ P W (tCons ta tNil) [oa]) (h : Op1 Γ r g) : Sx Γ P W (fun σ H Q => ta σ H fun x H1 => r x H1 Q) (aOp [oa] (l1 g)) := sx_op ha h.ok
theorem sx_op2 {r : R2} {g : O → O → Option O} (ha : Sa Γ P W (tCons ta (tCons tb tNil)) [oa, ob]) (h : Op2 Γ r g) : Sx Γ P W (tOp r ta tb) (aOp [oa, ob] (l2 g)) := sx_op ha h.ok
end

/-! ### whole numbers -/
def gAdd : O → O → Option O
  | .sh (.int i), .sh (.int j) => some (.sh (.int (i + j)))
  | .sh (.str x), .sh (.str y) => if x.length + y.length ≤ 16000000 then some (.sh (.str (x ++ y))) else none
  | a, b => match tupS a, tupS b with
    | some ds, some es => if ds.length + es.length ≤ 16000000 then some (.sh (.tup (ds ++ es))) else none
    | _, _ => match lstD a, lstD b with
      | some ds, some es => if ds.length + es.length ≤ 16000000 then some (.lst ((ds ++ es).map O.sh)) else none
      | _, _ => none
theorem le_line {n : Nat} (h : n ≤ 16000000) : n ≤ sizeLine := by rw [sizeLine_eq]; omega
theorem lt_line {n : Nat} (h : n < 16000000) : n < sizeLine := by rw [sizeLine_eq]; omega
def rAddG (K : PySem.W.Frag) : R2 := fun x y H Q => rI0 (fun i j => .int (i + j)) x y H Q ∨ (∃ i j, x = .str i ∧ y = .str j ∧ i.length + j.length ≤ sizeLine ∧ Q (.str (i ++ j)) H) ∨ rCatA K x y H Q ∨ rCat x y H Q
theorem or_add {X : Cx} : OpR X (binaryOp .Add) (rAddG X.K) := op_add.or (op_add_str.or (op_catA.or op_cat))
section
variable {Γ : Gb}
theorem ok_add : Op2 Γ (rAddG Γ.K) gAdd := by
  intro c R H x ox y oy w Q h m1 m2 e k
  unfold gAdd at e
  split at e
  · cases e
    exact .inl ⟨_, _, h.int m1, h.int m2, k _ _ (h.pure fun _ => .int _)⟩
  · split at e
    · cases e
      rename_i hl
      exact .inr (.inl ⟨_, _, h.str m1, h.str m2, le_line hl, k _ _ (h.pure fun _ => .str _)⟩)
    · cases e
  · split at e
    · rename_i ds es e1 e2
      split at e
      · cases e
        rename_i hl
        obtain ⟨a, xs, b, ys, rfl, ha, rfl, hb, l1, l2, had⟩ := h.tup2 m1 (tupS_D e1) m2 (tupS_D e2)
        refine .inr (.inr (.inl ⟨a, b, xs, ys, rfl, rfl, ha, hb, le_line (by omega), fun z => ?_, fun _ z => ?_, fun _ _ p hp => k _ _ (had.newT hp)⟩))
        · subst z
          have : ds = [] := List.eq_nil_of_length_eq_zero (by simpa using l1.symm)
          subst this
          rw [tupS_sh e2] at m2
          exact k _ _ (h.dup m2)
        · subst z
          have : es = [] := List.eq_nil_of_length_eq_zero (by simpa using l2.symm)
          subst this
          rw [tupS_sh e1] at m1
          rw [List.append_nil] at k
          exact k _ _ (h.dup m1)
      · cases e
    · split at e
      · rename_i ds es e1 e2
        split at e
        · cases e
          rename_i hl
          obtain ⟨a, xs, b, ys, rfl, ha, rfl, hb, l1, l2, had⟩ := h.lst2 m1 e1 m2 e2
          exact .inr (.inr (.inr ⟨a, b, xs, ys, rfl, rfl, ha, hb, le_line (by omega), fun p hp => k _ _ (had.newL hp)⟩))
        · cases e
      · cases e
end
end Den
end
section
/-! Den, part D: operations upon values. -/
namespace Den
open PySem L2
section
variable {Γ : Gb}
/-! ### whole numbers -/
def gSub : O → O → Option O
  | .sh (.int i), .sh (.int j) => some (.sh (.int (i - j)))
  | _, _ => none
theorem ok_sub : Op2 Γ (rI0 fun i j => .int (i - j)) gSub := by
  intro c R H x ox y oy w Q h m1 m2 e k
  unfold gSub at e
  split at e
  · cases e
    exact ⟨_, _, h.int m1, h.int m2, k _ _ (h.pure fun _ => .int _)⟩
  · cases e
def gFdiv : O → O → Option O
  | .sh (.int i), .sh (.int j) => if 0 < j ∧ j < 1073741824 then some (.sh (.int (i / j))) else none
  | _, _ => none
theorem ok_fdiv : Op2 Γ (rI CDiv fun i j => .int (i / j)) gFdiv := by
  intro c R H x ox y oy w Q h m1 m2 e k
  unfold gFdiv at e
  split at e
  · split at e
    · cases e
      rename_i hc
      exact ⟨_, _, h.int m1, h.int m2, hc, k _ _ (h.pure fun _ => .int _)⟩
    · cases e
  · cases e
def gMod : O → O → Option O
  | .sh (.int i), .sh (.int j) => if 0 < j then some (.sh (.int (i % j))) else none
  | _, _ => none
theorem ok_mod : Op2 Γ (rI (fun _ j => 0 < j) fun i j => .int (i % j)) gMod := by
  intro c R H x ox y oy w Q h m1 m2 e k
  unfold gMod at e
  split at e
  · split at e
    · cases e
      rename_i hc
      exact ⟨_, _, h.int m1, h.int m2, hc, k _ _ (h.pure fun _ => .int _)⟩
    · cases e
  · cases e
def gPow : O → O → Option O
  | .sh (.int i), .sh (.int j) => if 0 ≤ j ∧ j ≤ 1000000 ∧ i.natAbs < 18446744073709551616 then some (.sh (.int (i ^ j.toNat))) else none
  | _, _ => none
theorem ok_pow : Op2 Γ (rI CPow fun i j => .int (i ^ j.toNat)) gPow := by
  intro c R H x ox y oy w Q h m1 m2 e k
  unfold gPow at e
  split at e
  · split at e
    · cases e
      rename_i hc
      exact ⟨_, _, h.int m1, h.int m2, ⟨hc.1, hc.2.1, by have := hc.2.2; omega⟩, k _ _ (h.pure fun _ => .int _)⟩
    · cases e
  · cases e
theorem RepL.flat {S : Hp} {xs : List V} {ds : List D} (r : RepL Γ S xs ds) : ∀ n : Nat, RepL Γ S (List.replicate n xs).flatten (List.replicate n ds).flatten
  | 0 => .nil
  | n + 1 => by
    rw [List.replicate_succ, List.replicate_succ, List.flatten_cons, List.flatten_cons]
    exact r.append (RepL.flat r n)
def gMul : O → O → Option O
  | .sh (.int i), .sh (.int j) => if (-18446744073709551616 < i ∧ i < 18446744073709551616) ∨ (-18446744073709551616 < j ∧ j < 18446744073709551616) then some (.sh (.int (i * j))) else none
  | a, .sh (.int k) => match lstD a with
    | some ds => if 0 ≤ k ∧ k ≤ 1000000 ∧ ds.length * k.toNat ≤ 16000000 then some (.lst ((List.replicate k.toNat ds).flatten.map O.sh)) else none
    | none => none
  | _, _ => none
def rMulG : R2 := fun x y H Q => rI CMul (fun i j => .int (i * j)) x y H Q ∨ rRep x y H Q
theorem or_mul {X : Cx} : OpR X (binaryOp .Mult) rMulG := op_mul.or op_rep
theorem ok_mul : Op2 Γ rMulG gMul := by
  intro c R H x ox y oy w Q h m1 m2 e k
  unfold gMul at e
  split at e
  · split at e
    · cases e
      rename_i hc
      exact .inl ⟨_, _, h.int m1, h.int m2, by unfold CMul; omega, k _ _ (h.pure fun _ => .int _)⟩
    · cases e
  · split at e
    · rename_i ds e1
      split at e
      · cases e
        rename_i hc
        obtain ⟨a, xs, rfl, ha, had⟩ := h.lst m1 e1
        refine .inr ⟨a, _, xs, rfl, h.int m2, ha, by omega, by omega, le_line (by rw [had.len]; exact hc.2.2), fun p hp => k _ _ ?_⟩
        obtain ⟨S, sb, r, q⟩ := had.ex
        exact Had.newL ⟨S, sb, r.flat _, q⟩ hp
      · cases e
    · cases e
  · cases e
def gNeg : O → Option O
  | .sh (.int i) => some (.sh (.int (-i)))
  | _ => none
theorem ok_neg : Op1 Γ (rU fun i => .int (-i)) gNeg := by
  intro c R H x ox w Q h m1 e k
  unfold gNeg at e
  split at e
  · cases e
    exact ⟨_, h.int m1, k _ _ (h.pure fun _ => .int _)⟩
  · cases e

/-! ### equality -/
mutual
def toPy : D → Option PyData
  | .non => some .none
  | .bl b => some (.bool b)
  | .int i => some (.int i)
  | .str x => some (.str x)
  | .tup ds => (toPyL ds).map .tuple
  | .lst ds => (toPyL ds).map .list
  | .wls _ => none
  | .ktp ds => (toPyL ds).map .tuple
  | .dic _ => none
  | .dit _ => none
  | .obj _ _ => none
  | .xd _ => none
def toPyL : List D → Option (List PyData)
  | [] => some []
  | d :: ds => (toPy d).bind fun p => (toPyL ds).map (p :: ·)
end
mutual
theorem Rep.dp {S : Hp} : ∀ {v : V} {d : D}, Rep Γ S v d → ∀ {p : PyData}, toPy d = some p → Dp Γ.K S v p
  | _, _, .non, p, e => by
    simp only [toPy, Option.some.injEq] at e
    subst e
    exact .non
  | _, _, .bl b, p, e => by
    simp only [toPy, Option.some.injEq] at e
    subst e
    exact .bl b
  | _, _, .int i, p, e => by
    simp only [toPy, Option.some.injEq] at e
    subst e
    exact .int i
  | _, _, .str x, p, e => by
    simp only [toPy, Option.some.injEq] at e
    subst e
    exact .str x
  | _, _, .tup hs hl, p, e => by
    simp only [toPy, Option.map_eq_some_iff] at e
    obtain ⟨q, e, rfl⟩ := e
    exact .tup (.of hs) (RepL.dp hl e)
  | _, _, .ktp hs hl, p, e => by
    simp only [toPy, Option.map_eq_some_iff] at e
    obtain ⟨q, e, rfl⟩ := e
    exact .tup hs (RepL.dp hl e)
  | _, _, .lst hs hl, p, e => by
    simp only [toPy, Option.map_eq_some_iff] at e
    obtain ⟨q, e, rfl⟩ := e
    exact .lst (.of hs) (RepL.dp hl e)
  | _, _, .wls _ _, p, e => by simp [toPy] at e
  | _, _, .dic _ _ _, p, e => by simp [toPy] at e
  | _, _, .dit _ _ _, p, e => by simp [toPy] at e
  | _, _, .obj _ _ _, p, e => by simp [toPy] at e
  | _, _, .xd _ _ _, p, e => by simp [toPy] at e
theorem RepL.dp {S : Hp} : ∀ {vs : List V} {ds : List D}, RepL Γ S vs ds → ∀ {ps : List PyData}, toPyL ds = some ps → DpAll Γ.K S vs ps
  | _, _, .nil, ps, e => by
    simp only [toPyL, Option.some.injEq] at e
    subst e
    exact .nil
  | _, _, .cons r t, ps, e => by
    simp only [toPyL, Option.bind_eq_some_iff, Option.map_eq_some_iff] at e
    obtain ⟨p, e1, q, e2, rfl⟩ := e
    exact .cons (Rep.dp r e1) (RepL.dp t e2)
end
/-- what is owned stands in H as data, too -/
theorem OR.rep {S H : Hp} {v : V} {o : O} {F : List Addr} (r : OR Γ S H v o F) (sb : Sub S H) : Rep Γ H v (Den.fz o) := r.fz (fun a o e => (sb a o e).1) fun _ _ _ e => e
theorem RS.rep {c : Ent} {R : List (V × O)} {H : Hp} {v : V} {o : O} (h : RS Γ c R H) (m : (v, o) ∈ R) : Rep Γ H v (Den.fz o) := by
  obtain ⟨S, sb, rd, _⟩ := h.readS
  obtain ⟨F, x⟩ := rd _ m
  exact x.rep sb
/-- == of two flat things that are of kinds that are told apart at once -/
def scalD : D → D → Option Bool
  | .non, .non => some true
  | .non, .int _ => some false | .int _, .non => some false
  | .non, .bl _ => some false | .bl _, .non => some false
  | .non, .str _ => some false | .str _, .non => some false
  | .int i, .int j => some (decide (i = j))
  | .bl i, .bl j => some (decide (i = j))
  | .str i, .str j => some (decide (i = j))
  | .int _, .str _ => some false | .str _, .int _ => some false
  | .bl _, .str _ => some false | .str _, .bl _ => some false
  | _, _ => none
theorem scal_of {S : Hp} {x y : V} {a b : D} (r1 : Rep Γ S x a) (r2 : Rep Γ S y b) {t : Bool} (e : scalD a b = some t) : scal x y = true ∧ decide (x = y) = t := by
  cases r1 <;> cases r2 <;> simp only [scalD, Option.some.injEq, reduceCtorEq] at e <;> subst e <;> simp [scal]
def gEqD (a b : D) : Option Bool := match scalD a b with
  | some t => some t
  | none => match toPy a, toPy b with
    | some p, some q => if SeqAt.shaped p = true ∧ SeqAt.shaped q = true then some (PyData.eqv p q) else none
    | _, _ => none
def gEq (x y : O) : Option O := (gEqD (fz x) (fz y)).map fun b => .sh (.bl b)
def gNe (x y : O) : Option O := (gEqD (fz x) (fz y)).map fun b => .sh (.bl (!b))
def rEqG (K : PySem.W.Frag) : R2 := fun x y H Q => rEq x y H Q ∨ rEqD K x y H Q
def rNeG (K : PySem.W.Frag) : R2 := fun x y H Q => rNe x y H Q ∨ rNeD K x y H Q
theorem or_eq {X : Cx} (hu : X.A.units + 64 < cLine) : OpR X (compareOp .Eq) (rEqG X.K) := op_eq.or (op_eqD hu)
theorem or_ne {X : Cx} (hu : X.A.units + 64 < cLine) : OpR X (compareOp .NotEq) (rNeG X.K) := op_ne.or (op_neD hu)
theorem ok_eq : Op2 Γ (rEqG Γ.K) gEq := by
  intro c R H x ox y oy w Q h m1 m2 e k
  simp only [gEq, Option.map_eq_some_iff] at e
  obtain ⟨t, e, rfl⟩ := e
  have r1 := h.rep m1
  have r2 := h.rep m2
  unfold gEqD at e
  split at e
  · cases e
    rename_i es
    obtain ⟨a, b⟩ := scal_of r1 r2 es
    exact .inl ⟨a, k _ _ (by rw [b]; exact h.pure fun _ => .bl _)⟩
  · split at e
    · rename_i p q e1 e2
      split at e
      · cases e
        rename_i hc
        exact .inr ⟨p, q, r1.dp e1, r2.dp e2, hc.1, hc.2, k _ _ (h.pure fun _ => .bl _)⟩
      · cases e
    · cases e
theorem ok_ne : Op2 Γ (rNeG Γ.K) gNe := by
  intro c R H x ox y oy w Q h m1 m2 e k
  simp only [gNe, Option.map_eq_some_iff] at e
  obtain ⟨t, e, rfl⟩ := e
  have r1 := h.rep m1
  have r2 := h.rep m2
  unfold gEqD at e
  split at e
  · cases e
    rename_i es
    obtain ⟨a, b⟩ := scal_of r1 r2 es
    exact .inl ⟨a, k _ _ (by rw [b]; exact h.pure fun _ => .bl _)⟩
  · split at e
    · rename_i p q e1 e2
      split at e
      · cases e
        rename_i hc
        exact .inr ⟨p, q, r1.dp e1, r2.dp e2, hc.1, hc.2, k _ _ (h.pure fun _ => .bl _)⟩
      · cases e
    · cases e

/-! ### order -/
def gLt : O → O → Option O
  | .sh (.int i), .sh (.int j) => some (.sh (.bl (decide (i < j))))
  | .sh (.str i), .sh (.str j) => some (.sh (.bl (decide (i.cps.toList < j.cps.toList))))
  | _, _ => none
def gGt : O → O → Option O
  | .sh (.int i), .sh (.int j) => some (.sh (.bl (decide (j < i))))
  | .sh (.str i), .sh (.str j) => some (.sh (.bl (decide (j.cps.toList < i.cps.toList))))
  | _, _ => none
def gLe : O → O → Option O
  | .sh (.int i), .sh (.int j) => some (.sh (.bl (decide (i ≤ j))))
  | .sh (.str i), .sh (.str j) => some (.sh (.bl (!decide (j.cps.toList < i.cps.toList))))
  | _, _ => none
def gGe : O → O → Option O
  | .sh (.int i), .sh (.int j) => some (.sh (.bl (decide (j ≤ i))))
  | .sh (.str i), .sh (.str j) => some (.sh (.bl (!decide (i.cps.toList < j.cps.toList))))
  | _, _ => none
def rCmpG (f : Int → Int → Bool) (g : Str → Str → Bool) : R2 := fun x y H Q => rI0 (fun i j => .bl (f i j)) x y H Q ∨ (∃ i j, x = .str i ∧ y = .str j ∧ Q (.bl (g i j)) H)
theorem or_lt {X : Cx} : OpR X (compareOp .Lt) (rCmpG (fun i j => decide (i < j)) fun i j => decide (i.cps.toList < j.cps.toList)) := op_lt.or op_lt_str
theorem or_gt {X : Cx} : OpR X (compareOp .Gt) (rCmpG (fun i j => decide (j < i)) fun i j => decide (j.cps.toList < i.cps.toList)) := op_gt.or op_gt_str
theorem or_le {X : Cx} : OpR X (compareOp .LtE) (rCmpG (fun i j => decide (i ≤ j)) fun i j => !decide (j.cps.toList < i.cps.toList)) := op_le.or op_le_str
theorem or_ge {X : Cx} : OpR X (compareOp .GtE) (rCmpG (fun i j => decide (j ≤ i)) fun i j => !decide (i.cps.toList < j.cps.toList)) := op_ge.or op_ge_str
theorem ok_lt : Op2 Γ (rCmpG (fun i j => decide (i < j)) fun i j => decide (i.cps.toList < j.cps.toList)) gLt := by
  intro c R H x ox y oy w Q h m1 m2 e k
  unfold gLt at e
  split at e <;> cases e
  · exact .inl ⟨_, _, h.int m1, h.int m2, k _ _ (h.pure fun _ => .bl _)⟩
  · exact .inr ⟨_, _, h.str m1, h.str m2, k _ _ (h.pure fun _ => .bl _)⟩
theorem ok_gt : Op2 Γ (rCmpG (fun i j => decide (j < i)) fun i j => decide (j.cps.toList < i.cps.toList)) gGt := by
  intro c R H x ox y oy w Q h m1 m2 e k
  unfold gGt at e
  split at e <;> cases e
  · exact .inl ⟨_, _, h.int m1, h.int m2, k _ _ (h.pure fun _ => .bl _)⟩
  · exact .inr ⟨_, _, h.str m1, h.str m2, k _ _ (h.pure fun _ => .bl _)⟩
theorem ok_le : Op2 Γ (rCmpG (fun i j => decide (i ≤ j)) fun i j => !decide (j.cps.toList < i.cps.toList)) gLe := by
  intro c R H x ox y oy w Q h m1 m2 e k
  unfold gLe at e
  split at e <;> cases e
  · exact .inl ⟨_, _, h.int m1, h.int m2, k _ _ (h.pure fun _ => .bl _)⟩
  · exact .inr ⟨_, _, h.str m1, h.str m2, k _ _ (h.pure fun _ => .bl _)⟩
theorem ok_ge : Op2 Γ (rCmpG (fun i j => decide (j ≤ i)) fun i j => !decide (i.cps.toList < j.cps.toList)) gGe := by
  intro c R H x ox y oy w Q h m1 m2 e k
  unfold gGe at e
  split at e <;> cases e
  · exact .inl ⟨_, _, h.int m1, h.int m2, k _ _ (h.pure fun _ => .bl _)⟩
  · exact .inr ⟨_, _, h.str m1, h.str m2, k _ _ (h.pure fun _ => .bl _)⟩

/-! ### is -/
def gIs (b : V) (d : D → Bool) : O → Option O := fun o => some (.sh (.bl (d (fz o))))
def isNon : D → Bool
  | .non => true
  | _ => false
def isBl (b : Bool) : D → Bool
  | .bl c => c == b
  | _ => false
def gIsN (o : O) : Option O := some (.sh (.bl (isNon (fz o))))
def gNotN (o : O) : Option O := some (.sh (.bl (!isNon (fz o))))
def gIsB (b : Bool) (o : O) : Option O := some (.sh (.bl (isBl b (fz o))))
def gNotB (b : Bool) (o : O) : Option O := some (.sh (.bl (!isBl b (fz o))))
theorem isNon_of {S : Hp} {x : V} {d : D} (r : Rep Γ S x d) : decide (x = .non) = isNon d := by cases r <;> simp [isNon]
theorem isBl_of {S : Hp} {x : V} {d : D} {b : Bool} (r : Rep Γ S x d) : decide (x = .bl b) = isBl b d := by cases r <;> first | (simp [isBl]; done) | (rename_i c; cases b <;> cases c <;> rfl)
theorem ok_isN : Op1 Γ (fun x H Q => Q (.bl (decide (x = .non))) H) gIsN := by
  intro c R H x ox w Q h m1 e k
  cases e
  exact k _ _ (by rw [isNon_of (h.rep m1)]; exact h.pure fun _ => .bl _)
theorem ok_notN : Op1 Γ (fun x H Q => Q (.bl (!decide (x = .non))) H) gNotN := by
  intro c R H x ox w Q h m1 e k
  cases e
  exact k _ _ (by rw [isNon_of (h.rep m1)]; exact h.pure fun _ => .bl _)
def rIsBG : R2 := fun x y H Q => ∃ b : Bool, y = .bl b ∧ Q (.bl (decide (x = .bl b))) H
def rNotBG : R2 := fun x y H Q => ∃ b : Bool, y = .bl b ∧ Q (.bl (!decide (x = .bl b))) H
theorem op_isBG {X : Cx} : OpR X (compareOp .Is) rIsBG := by
  intro pins s σ H x y v u Q I rx ry h
  obtain ⟨b, rfl, q⟩ := h
  cases (show u = Value.bool b from ry)
  have pl : plainIs v (.bool b) = true := by cases x <;> first | (cases rx; rfl) | (obtain ⟨t, rfl⟩ := rx; rfl) | skip
  by_cases e : v = .bool b
  · subst e
    have : x = .bl b := rx.inj ry
    subst this
    exact wpAny_is_self rfl ⟨.bl true, H, I, rfl, by simpa using q⟩
  · have : x ≠ .bl b := fun z => by subst z; exact e rx
    exact wpAny_is_other pl e ⟨.bl false, H, I, rfl, by simpa [this] using q⟩
theorem op_notBG {X : Cx} : OpR X (compareOp .IsNot) rNotBG := by
  intro pins s σ H x y v u Q I rx ry h
  obtain ⟨b, rfl, q⟩ := h
  cases (show u = Value.bool b from ry)
  have pl : plainIs v (.bool b) = true := by cases x <;> first | (cases rx; rfl) | (obtain ⟨t, rfl⟩ := rx; rfl) | skip
  by_cases e : v = .bool b
  · subst e
    have : x = .bl b := rx.inj ry
    subst this
    exact wpAny_isNot_self rfl ⟨.bl false, H, I, rfl, by simpa using q⟩
  · have : x ≠ .bl b := fun z => by subst z; exact e rx
    exact wpAny_isNot_other pl e ⟨.bl true, H, I, rfl, by simpa [this] using q⟩
theorem ok_isB {b : Bool} : Op1 Γ (fun x H Q => rIsBG x (.bl b) H Q) (gIsB b) := by
  intro c R H x ox w Q h m1 e k
  cases e
  exact ⟨b, rfl, k _ _ (by rw [isBl_of (h.rep m1)]; exact h.pure fun _ => .bl _)⟩
theorem ok_notB {b : Bool} : Op1 Γ (fun x H Q => rNotBG x (.bl b) H Q) (gNotB b) := by
  intro c R H x ox w Q h m1 e k
  cases e
  exact ⟨b, rfl, k _ _ (by rw [isBl_of (h.rep m1)]; exact h.pure fun _ => .bl _)⟩
end
end Den
end
section
/-! Den, part E: in, items, slices, built-ins. -/
namespace Den
open PySem L2
section
variable {Γ : Gb}
/-! ### in -/
def flatD : D → Bool
  | .non | .bl _ | .int _ | .str _ => true
  | _ => false
def dV : D → V
  | .bl b => .bl b
  | .int i => .int i
  | .str x => .str x
  | _ => .non
theorem flat_of {S : Hp} {v : V} {d : D} (r : Rep Γ S v d) (f : flatD d = true) : v = dV d ∧ flatV v = true := by
  cases r <;> first | (simp [flatD] at f; done) | exact ⟨rfl, rfl⟩
theorem flats_of {S : Hp} : ∀ {xs : List V} {ds : List D}, RepL Γ S xs ds → ds.all flatD = true → xs = ds.map dV ∧ xs.all flatV = true
  | _, _, .nil, _ => ⟨rfl, rfl⟩
  | _, _, .cons r t, f => by
    rw [List.all_cons, Bool.and_eq_true] at f
    obtain ⟨a, b⟩ := flat_of r f.1
    obtain ⟨c, d⟩ := flats_of t f.2
    exact ⟨by rw [List.map_cons, ← a, ← c], by rw [List.all_cons, b, d] <;> rfl⟩
/-- == of flat things -/
def eqF (a b : D) : Bool := eqV (dV a) (dV b)
def inF (d : D) (ds : List D) : Bool := ds.any fun e => eqF e d
theorem inF_of (d : D) (ds : List D) : inV (dV d) (ds.map dV) = inF d ds := by
  unfold inV inF
  rw [List.any_map]
  rfl
def seqD (o : O) : Option (List D) := match fz o with
  | .lst ds => some ds
  | .tup ds => some ds
  | .ktp ds => some ds
  | _ => none
/-- a dict's key -/
def keyD : D → Option Key
  | .int i => some (.inl i)
  | .str x => some (.inr x)
  | _ => none
theorem keyD_kD {d : D} {k : Key} (e : keyD d = some k) : d = kD k := by
  cases d <;> simp [keyD] at e <;> subst e <;> rfl
def keyEq (d : D) (k : Key) : Bool := match d, k with
  | .int i, .inl j => decide (i = j)
  | .str x, .inr y => decide (x = y)
  | _, _ => false
theorem keyEq_kD (k j : Key) : keyEq (kD k) j = decide (k = j) := by
  cases k <;> cases j <;> simp [keyEq, kD]
/-- what stands at a key -/
def valD {α : Type} (kvs : List (D × α)) (k : Key) : Option α := (kvs.find? fun p => keyEq p.1 k).map (·.2)
theorem rep_key {S : Hp} {v : V} {k : Key} (r : Rep Γ S v (kD k)) : v = kV k := by
  cases k <;> (cases r; rfl)
theorem valD_rep {S : Hp} : ∀ {kvs : List (Key × V)} {dkvs : List (D × D)}, dkvs.map Prod.fst = kvs.map (fun p => kD p.1) → RepL Γ S (kvs.map Prod.snd) (dkvs.map Prod.snd) → ∀ k : Key,
    match valD dkvs k with
    | some d => ∃ v, valV kvs k = some v ∧ Rep Γ S v d
    | none => valV kvs k = none
  | [], [], _, _, k => by simp [valD, valV]
  | [], _ :: _, e, _, k => by cases e
  | _ :: _, [], e, _, k => by cases e
  | (k1, v1) :: kvs, (d1, e1) :: dkvs, e, r, k => by
    simp only [List.map_cons, List.cons.injEq] at e
    obtain ⟨a, b⟩ := e
    subst a
    cases r with
    | cons r1 r2 =>
      have ih := valD_rep b r2 k
      by_cases hk : k1 = k
      · have h1 : valD ((kD k1, e1) :: dkvs) k = some e1 := by simp [valD, List.find?_cons, keyEq_kD, hk]
        rw [h1]
        exact ⟨v1, valV_pos hk, r1⟩
      · have h1 : valD ((kD k1, e1) :: dkvs) k = valD dkvs k := by simp [valD, List.find?_cons, keyEq_kD, hk]
        rw [h1, valV_neg hk]
        exact ih
/-! keys that are tuples -/
def keyL : List D → Option (List Key)
  | [] => some []
  | d :: ds => (keyD d).bind fun k => (keyL ds).map (k :: ·)
def keyT : D → Option (List Key)
  | .tup ds => keyL ds
  | _ => none
theorem keyL_map : ∀ {ds : List D} {k : List Key}, keyL ds = some k → ds = k.map kD
  | [], k, e => by
    cases e
    rfl
  | d :: ds, k, e => by
    simp only [keyL, Option.bind_eq_some_iff, Option.map_eq_some_iff] at e
    obtain ⟨j, e1, r, e2, rfl⟩ := e
    rw [List.map_cons, ← keyD_kD e1, ← keyL_map e2]
theorem keyD_of (k : Key) : keyD (kD k) = some k := by cases k <;> rfl
theorem keyL_of : ∀ k : List Key, keyL (k.map kD) = some k
  | [] => rfl
  | j :: k => by simp [keyL, keyD_of, keyL_of k]
theorem keyT_tD {d : D} {k : List Key} (e : keyT d = some k) : d = tD k := by
  cases d <;> first | (cases e; done) | skip
  rw [keyL_map e]
  rfl
theorem keyT_of (k : List Key) : keyT (tD k) = some k := keyL_of k
def keyEqT (d : D) (k : List Key) : Bool := decide (keyT d = some k)
theorem keyEqT_tD (k j : List Key) : keyEqT (tD k) j = decide (k = j) := by simp [keyEqT, keyT_of]
def valT {α : Type} (kvs : List (D × α)) (k : List Key) : Option α := (kvs.find? fun p => keyEqT p.1 k).map (·.2)
theorem reps_key {S : Hp} : ∀ {vs : List V} {k : List Key}, RepL Γ S vs (k.map kD) → vs = k.map kV
  | [], [], _ => rfl
  | v :: vs, j :: k, r => by
    cases r with
    | cons r1 r2 => rw [List.map_cons, rep_key r1, reps_key r2]
theorem rep_keyT {S : Hp} {v : V} {k : List Key} (r : Rep Γ S v (tD k)) : ∃ b, v = .ref b ∧ S b = some (.tup (k.map kV)) := by
  unfold tD at r
  cases r with
  | tup a b => exact ⟨_, rfl, by rw [a, reps_key b]⟩
theorem valV_posT {k1 k : List Key} {v1 : V} {kvs : List (List Key × V)} (h : k1 = k) : valV ((k1, v1) :: kvs) k = some v1 := by
  subst h
  simp [valV, List.find?_cons]
theorem valV_negT {k1 k : List Key} {v1 : V} {kvs : List (List Key × V)} (h : k1 ≠ k) : valV ((k1, v1) :: kvs) k = valV kvs k := by
  simp [valV, List.find?_cons, h]
theorem valT_rep {S : Hp} : ∀ {kvs : List (List Key × V)} {dkvs : List (D × D)}, dkvs.map Prod.fst = kvs.map (fun p => tD p.1) → RepL Γ S (kvs.map Prod.snd) (dkvs.map Prod.snd) → ∀ k : List Key,
    match valT dkvs k with
    | some d => ∃ v, valV kvs k = some v ∧ Rep Γ S v d
    | none => valV kvs k = none
  | [], [], _, _, k => by simp [valT, valV]
  | [], _ :: _, e, _, k => by cases e
  | _ :: _, [], e, _, k => by cases e
  | (k1, v1) :: kvs, (d1, e1) :: dkvs, e, r, k => by
    simp only [List.map_cons, List.cons.injEq] at e
    obtain ⟨a, b⟩ := e
    subst a
    cases r with
    | cons r1 r2 =>
      have ih := valT_rep b r2 k
      by_cases hk : k1 = k
      · have h1 : valT ((tD k1, e1) :: dkvs) k = some e1 := by simp [valT, List.find?_cons, keyEqT_tD, hk]
        rw [h1]
        exact ⟨v1, valV_posT hk, r1⟩
      · have h1 : valT ((tD k1, e1) :: dkvs) k = valT dkvs k := by simp [valT, List.find?_cons, keyEqT_tD, hk]
        rw [h1, valV_negT hk]
        exact ih
def ditD (o : O) : Option (List (D × D)) := match fz o with
  | .dit kvs => some kvs
  | _ => none
theorem RS.dit {c : Ent} {R : List (V × O)} {H : Hp} {v : V} {o : O} {kvs : List (D × D)} (h : RS Γ c R H) (m : (v, o) ∈ R) (e : ditD o = some kvs) : ∃ a ks, v = .ref a ∧ H a = some (.dT ks) ∧ kvs.map Prod.fst = ks.map (fun p => tD p.1) ∧ RepL Γ H (ks.map Prod.snd) (kvs.map Prod.snd) := by
  have r := h.rep m
  unfold ditD at e
  split at e <;> cases e
  rename_i q
  rw [q] at r
  cases r with
  | dit a b c => exact ⟨_, _, rfl, a, b, c⟩
theorem isSome_T {S : Hp} {ks : List (List Key × V)} {kvs : List (D × D)} {kk : List Key} (z : match valT kvs kk with
    | some d => ∃ v, valV ks kk = some v ∧ Rep Γ S v d
    | none => valV ks kk = none) : (valV ks kk).isSome = (valT kvs kk).isSome := by
  cases q : valT kvs kk with
  | none =>
    rw [q] at z
    have z : valV ks kk = none := z
    rw [z]
    rfl
  | some d =>
    rw [q] at z
    obtain ⟨v, hv, _⟩ := z
    rw [hv]
    rfl
def dicD (o : O) : Option (List (D × D)) := match fz o with
  | .dic kvs => some kvs
  | _ => none
theorem RS.seq {c : Ent} {R : List (V × O)} {H : Hp} {v : V} {o : O} {ds : List D} (h : RS Γ c R H) (m : (v, o) ∈ R) (e : seqD o = some ds) : ∃ a xs, v = .ref a ∧ (SqL Γ.K H a xs ∨ SqT Γ.K H a xs) ∧ RepL Γ H xs ds := by
  have r := h.rep m
  unfold seqD at e
  split at e <;> cases e
  · rename_i q
    rw [q] at r
    cases r with
    | lst a b => exact ⟨_, _, rfl, .inl (.of a), b⟩
  · rename_i q
    rw [q] at r
    cases r with
    | tup a b => exact ⟨_, _, rfl, .inr (.inl (.of a)), b⟩
  · rename_i q
    rw [q] at r
    cases r with
    | ktp a b => exact ⟨_, _, rfl, .inr a, b⟩
theorem RS.dic {c : Ent} {R : List (V × O)} {H : Hp} {v : V} {o : O} {kvs : List (D × D)} (h : RS Γ c R H) (m : (v, o) ∈ R) (e : dicD o = some kvs) : ∃ a ks, v = .ref a ∧ H a = some (.dK ks) ∧ kvs.map Prod.fst = ks.map (fun p => kD p.1) ∧ RepL Γ H (ks.map Prod.snd) (kvs.map Prod.snd) := by
  have r := h.rep m
  unfold dicD at e
  split at e <;> cases e
  rename_i q
  rw [q] at r
  cases r with
  | dic a b c => exact ⟨_, _, rfl, a, b, c⟩
/-- is x in y -/
def inG (x y : O) : Option Bool := match x, y with
  | .sh (.str a), .sh (.str z) => match a.cps.toList with
    | [c] => some (decide (c ∈ z.cps.toList))
    | _ => some (!(Builtin.Str.occurrences z a 0 z.length 1).isEmpty)
  | x, y => match ditD y with
    | some kvs => (keyT (fz x)).map fun k => (valT kvs k).isSome
    | none => match dicD y with
    | some kvs => (keyD (fz x)).map fun k => (valD kvs k).isSome
    | none => match seqD y with
      | some ds => if flatD (fz x) = true ∧ ds.all flatD = true then some (inF (fz x) ds) else
        match fz y, toPy (fz x), toPyL ds with
        | .lst _, some p, some qs => if SeqAt.shaped p = true ∧ SeqAt.shaped (.list qs) = true then some (qs.any fun z => PyData.eqv z p) else none
        | _, _, _ => none
      | none => none
def gIn (x y : O) : Option O := (inG x y).map fun b => .sh (.bl b)
def gNotIn (x y : O) : Option O := (inG x y).map fun b => .sh (.bl (!b))
def rSignIn (neg : Bool) : R2 := fun x y H Q => ∃ (c : Nat) (z : Str), x = .str ⟨#[c]⟩ ∧ y = .str z ∧ Q (.bl (if neg then !decide (c ∈ z.cps.toList) else decide (c ∈ z.cps.toList))) H
def rStrIn (neg : Bool) : R2 := fun x y H Q => ∃ i j, x = .str i ∧ y = .str j ∧ Q (.bl (if neg then !(!(Builtin.Str.occurrences j i 0 j.length 1).isEmpty) else !(Builtin.Str.occurrences j i 0 j.length 1).isEmpty)) H
def rDicIn (neg : Bool) : R2 := fun y x H Q => ∃ a o, x = .ref a ∧ DGet H a y o ∧ Q (.bl (if neg then !o.isSome else o.isSome)) H
def rInG (K : PySem.W.Frag) (neg : Bool) : R2 := fun x y H Q => rSignIn neg x y H Q ∨ rStrIn neg x y H Q ∨ rIn K neg x y H Q ∨ rDicIn neg x y H Q ∨ (if neg then rNotInD K else rInD K) x y H Q
theorem op_dicIn {X : Cx} (hu : X.A.units + 1 < cLine) : OpR X (compareOp .In) (rDicIn false) := by
  intro pins s σ H y x v u Q I ry rx h
  obtain ⟨a, o, rfl, g, q⟩ := h
  obtain rfl : u = Value.ref a := rx
  exact d_in hu I g ry fun s3 I3 => ⟨.bl o.isSome, H, I3, rfl, q⟩
theorem op_dicNotIn {X : Cx} (hu : X.A.units + 1 < cLine) : OpR X (compareOp .NotIn) (rDicIn true) := by
  intro pins s σ H y x v u Q I ry rx h
  obtain ⟨a, o, rfl, g, q⟩ := h
  obtain rfl : u = Value.ref a := rx
  exact d_notIn hu I g ry fun s3 I3 => ⟨.bl (!o.isSome), H, I3, rfl, q⟩
theorem or_in {X : Cx} (hu : X.A.units + 65 < cLine) : OpR X (compareOp .In) (rInG X.K false) := op_in_sign.or (op_in_str.or (op_in_seq.or ((op_dicIn (by omega)).or (op_inD hu))))
theorem or_notIn {X : Cx} (hu : X.A.units + 65 < cLine) : OpR X (compareOp .NotIn) (rInG X.K true) := op_notIn_sign.or (op_notIn_str.or (op_notIn_seq.or ((op_dicNotIn (by omega)).or (op_notInD hu))))
theorem sign_of {a : Str} {c : Nat} (e : a.cps.toList = [c]) : a = ⟨#[c]⟩ := by
  obtain ⟨⟨l⟩⟩ := a
  have : l = [c] := e
  subst this
  rfl
theorem in_core {neg : Bool} {c : Ent} {R : List (V × O)} {H : Hp} {x : V} {ox : O} {y : V} {oy : O} {b : Bool} {Q : VK} (h : RS Γ c R H) (m1 : (x, ox) ∈ R) (m2 : (y, oy) ∈ R) (e : inG ox oy = some b)
    (k : Q (.bl (if neg then !b else b)) H) : rInG Γ.K neg x y H Q := by
  unfold inG at e
  split at e
  · rename_i a z
    have e1 := h.str m1
    have e2 := h.str m2
    subst e1 e2
    split at e
    · rename_i c hc
      cases e
      exact .inl ⟨c, z, by rw [sign_of hc], rfl, k⟩
    · cases e
      exact .inr (.inl ⟨a, z, rfl, rfl, k⟩)
  · split at e
    · rename_i kvs hd
      simp only [Option.map_eq_some_iff] at e
      obtain ⟨kk, ek, rfl⟩ := e
      obtain ⟨a, ks, rfl, ha, e1, r⟩ := h.dit m2 hd
      have r1 := h.rep m1
      rw [keyT_tD ek] at r1
      obtain ⟨b, rfl, hb⟩ := rep_keyT r1
      exact .inr (.inr (.inr (.inl ⟨a, valV ks kk, rfl, .t ha hb, by rw [isSome_T (valT_rep e1 r kk)]; exact k⟩)))
    split at e
    · rename_i kvs hd
      simp only [Option.map_eq_some_iff] at e
      obtain ⟨kk, ek, rfl⟩ := e
      obtain ⟨a, ks, rfl, ha, e1, r⟩ := h.dic m2 hd
      have r1 := h.rep m1
      rw [keyD_kD ek] at r1
      refine .inr (.inr (.inr (.inl ⟨a, valV ks kk, rfl, ?_, ?_⟩)))
      · rw [rep_key r1]
        exact .k ha
      · have z := valD_rep e1 r kk
        have : (valV ks kk).isSome = (valD kvs kk).isSome := by
          cases q : valD kvs kk with
          | none =>
            rw [q] at z
            have z : valV ks kk = none := z
            rw [z]
            rfl
          | some d =>
            rw [q] at z
            obtain ⟨v, hv, _⟩ := z
            rw [hv]
            rfl
        rw [this]
        exact k
    · split at e
      · rename_i ds hs
        obtain ⟨a, xs, rfl, hq, r⟩ := h.seq m2 hs
        have r1 := h.rep m1
        split at e
        · cases e
          rename_i hf
          obtain ⟨f1, f2⟩ := flat_of r1 hf.1
          obtain ⟨g1, g2⟩ := flats_of r hf.2
          subst f1 g1
          exact .inr (.inr (.inl ⟨a, _, rfl, hq, f2, g2, by rw [inF_of]; exact k⟩))
        · split at e
          · rename_i p qs ey ep eq
            split at e
            · cases e
              rename_i hc
              have r2 := h.rep m2
              unfold seqD at hs
              rw [ey] at hs r2
              cases hs
              have dy : Dp Γ.K H (.ref a) (.list qs) := r2.dp (by simp only [toPy, eq, Option.map_some])
              refine .inr (.inr (.inr (.inr ?_)))
              cases neg with
              | true => exact ⟨p, qs, r1.dp ep, dy, hc.1, hc.2, k⟩
              | false => exact ⟨p, qs, r1.dp ep, dy, hc.1, hc.2, k⟩
            · cases e
          · cases e
      · cases e
theorem ok_in : Op2 Γ (rInG Γ.K false) gIn := by
  intro c R H x ox y oy w Q h m1 m2 e k
  simp only [gIn, Option.map_eq_some_iff] at e
  obtain ⟨b, e, rfl⟩ := e
  exact in_core h m1 m2 e (k _ _ (h.pure fun _ => .bl _))
theorem ok_notIn : Op2 Γ (rInG Γ.K true) gNotIn := by
  intro c R H x ox y oy w Q h m1 m2 e k
  simp only [gNotIn, Option.map_eq_some_iff] at e
  obtain ⟨b, e, rfl⟩ := e
  exact in_core h m1 m2 e (k _ _ (h.pure fun _ => .bl _))

/-! ### items -/
def gIx : O → O → Option O
  | .lst os, .sh (.int i) => match atI os i with
    | some (.sh d) => some (.sh d)
    | _ => none
  | .sh (.lst ds), .sh (.int i) => (atI ds i).map O.sh
  | .sh (.tup ds), .sh (.int i) => (atI ds i).map O.sh
  | .sh (.ktp ds), .sh (.int i) => (atI ds i).map O.sh
  | .sh (.str z), .sh (.int i) => if z.length ≤ 16000000 then (atI z.cps.toList i).map fun c => .sh (.str ⟨#[c]⟩) else none
  | .dic kvs, .sh k => match keyD k with
    | some k => match valD kvs k with
      | some (.sh d) => some (.sh d)
      | _ => none
    | none => none
  | .sh (.dic kvs), .sh k => match keyD k with
    | some k => (valD kvs k).map O.sh
    | none => none
  | .dit kvs, .sh k => match keyT k with
    | some k => match valT kvs k with
      | some (.sh d) => some (.sh d)
      | _ => none
    | none => none
  | .sh (.dit kvs), .sh k => match keyT k with
    | some k => (valT kvs k).map O.sh
    | none => none
  | _, _ => none
def rDicIx : R2 := fun x y H Q => ∃ a v, x = .ref a ∧ DGet H a y (some v) ∧ Q v H
def rIxG (K : PySem.W.Frag) : R2 := fun x y H Q => rIx K x y H Q ∨ rDicIx x y H Q
theorem ix_dic {X : Cx} (hu : X.A.units + 1 < cLine) : IxR X rDicIx := by
  intro value slice pins s σ H x y v u Q I rx ry h hs
  obtain ⟨a, w, rfl, g, q⟩ := h
  obtain rfl : v = Value.ref a := rx
  exact PyProof.Rows.tail_any (dict_typeIs I g) PySem.F.slot_dict_getitem.lookup (d_getItem hu I g ry fun w' s' I' r' => ⟨w, H, I', r', q⟩) hs
theorem or_ix {X : Cx} (hu : X.A.units + 1 < cLine) : IxR X (rIxG X.K) := ix_seq.or (ix_dic hu)
theorem atI_some {α : Type} {xs : List α} {i : Int} {x : α} (e : atI xs i = some x) : ∃ j, ixN xs.length i = some j ∧ xs[j]? = some x := by
  unfold atI at e
  cases q : ixN xs.length i with
  | none =>
    rw [q] at e
    cases e
  | some j =>
    rw [q] at e
    exact ⟨j, rfl, e⟩
theorem atI_of {α β : Type} {xs : List α} {ys : List β} {i : Int} {j : Nat} {y : β} (hl : xs.length = ys.length) (e : ixN xs.length i = some j) (h : ys[j]? = some y) : atI ys i = some y := by
  unfold atI
  rw [← hl, e]
  exact h
theorem valD_own {c : Ent} {R : List (V × O)} {H : Hp} {v : V} {kvs : List (D × O)} (h : RS Γ c R H) (m : (v, O.dic kvs) ∈ R) : ∃ a ks, v = .ref a ∧ H a = some (.dK ks) ∧ ∀ (k : Key) (d : D), valD kvs k = some (O.sh d) → ∃ w, valV ks k = some w ∧ RS Γ c ((w, .sh d) :: R) H := by
  obtain ⟨S, sb, rd, ad, _⟩ := h.readS
  obtain ⟨F, x⟩ := rd _ m
  cases x with
  | @dic a ks _ rs F ha e1 e2 e3 hl =>
    refine ⟨a, ks, rfl, ha, fun k d q => ?_⟩
    have key : ∀ (kvs : List (D × O)) (ks : List (Key × V)) (rs : List (V × O)) (F : List Addr), ORL Γ S H rs F → kvs.map Prod.fst = ks.map (fun p => kD p.1) → ks.map Prod.snd = rs.map Prod.fst → kvs.map Prod.snd = rs.map Prod.snd →
        valD kvs k = some (O.sh d) → ∃ w, valV ks k = some w ∧ Rep Γ S w d := by
      intro kvs
      induction kvs with
      | nil =>
        intro ks rs F _ _ _ _ q
        simp [valD] at q
      | cons p kvs ih =>
        intro ks rs F hl e1 e2 e3 q
        cases ks with
        | nil => cases e1
        | cons kv ks =>
          cases rs with
          | nil => cases e2
          | cons r rs =>
            obtain ⟨d1, o1⟩ := p
            obtain ⟨k1, v1⟩ := kv
            obtain ⟨v2, o2⟩ := r
            simp only [List.map_cons, List.cons.injEq] at e1 e2 e3
            obtain ⟨rfl, e1⟩ := e1
            obtain ⟨rfl, e2⟩ := e2
            obtain ⟨rfl, e3⟩ := e3
            cases hl with
            | cons r1 r2 =>
              by_cases hk : k1 = k
              · have h1 : valD ((kD k1, o1) :: kvs) k = some o1 := by simp [valD, List.find?_cons, keyEq_kD, hk]
                rw [h1] at q
                cases q
                exact ⟨v1, valV_pos hk, by cases r1 with | sh r => exact r⟩
              · have h1 : valD ((kD k1, o1) :: kvs) k = valD kvs k := by simp [valD, List.find?_cons, keyEq_kD, hk]
                rw [h1] at q
                obtain ⟨w, a, b⟩ := ih ks rs _ r2 e1 e2 e3 q
                exact ⟨w, by rw [valV_neg hk]; exact a, b⟩
    obtain ⟨w, p1, p2⟩ := key kvs ks rs F hl e1 e2 e3 q
    exact ⟨w, p1, ad _ _ p2⟩
theorem valT_own {c : Ent} {R : List (V × O)} {H : Hp} {v : V} {kvs : List (D × O)} (h : RS Γ c R H) (m : (v, O.dit kvs) ∈ R) : ∃ a ks, v = .ref a ∧ H a = some (.dT ks) ∧ ∀ (k : List Key) (d : D), valT kvs k = some (O.sh d) → ∃ w, valV ks k = some w ∧ RS Γ c ((w, .sh d) :: R) H := by
  obtain ⟨S, sb, rd, ad, _⟩ := h.readS
  obtain ⟨F, x⟩ := rd _ m
  cases x with
  | @dit a ks _ rs F ha e1 e2 e3 hl =>
    refine ⟨a, ks, rfl, ha, fun k d q => ?_⟩
    have key : ∀ (kvs : List (D × O)) (ks : List (List Key × V)) (rs : List (V × O)) (F : List Addr), ORL Γ S H rs F → kvs.map Prod.fst = ks.map (fun p => tD p.1) → ks.map Prod.snd = rs.map Prod.fst → kvs.map Prod.snd = rs.map Prod.snd →
        valT kvs k = some (O.sh d) → ∃ w, valV ks k = some w ∧ Rep Γ S w d := by
      intro kvs
      induction kvs with
      | nil =>
        intro ks rs F _ _ _ _ q
        simp [valT] at q
      | cons p kvs ih =>
        intro ks rs F hl e1 e2 e3 q
        cases ks with
        | nil => cases e1
        | cons kv ks =>
          cases rs with
          | nil => cases e2
          | cons r rs =>
            obtain ⟨d1, o1⟩ := p
            obtain ⟨k1, v1⟩ := kv
            obtain ⟨v2, o2⟩ := r
            simp only [List.map_cons, List.cons.injEq] at e1 e2 e3
            obtain ⟨rfl, e1⟩ := e1
            obtain ⟨rfl, e2⟩ := e2
            obtain ⟨rfl, e3⟩ := e3
            cases hl with
            | cons r1 r2 =>
              by_cases hk : k1 = k
              · have h1 : valT ((tD k1, o1) :: kvs) k = some o1 := by simp [valT, List.find?_cons, keyEqT_tD, hk]
                rw [h1] at q
                cases q
                exact ⟨v1, valV_posT hk, by cases r1 with | sh r => exact r⟩
              · have h1 : valT ((tD k1, o1) :: kvs) k = valT kvs k := by simp [valT, List.find?_cons, keyEqT_tD, hk]
                rw [h1] at q
                obtain ⟨w, a, b⟩ := ih ks rs _ r2 e1 e2 e3 q
                exact ⟨w, by rw [valV_negT hk]; exact a, b⟩
    obtain ⟨w, p1, p2⟩ := key kvs ks rs F hl e1 e2 e3 q
    exact ⟨w, p1, ad _ _ p2⟩
theorem ok_ix : Op2 Γ (rIxG Γ.K) gIx := by
  intro c R H x ox y oy w Q h m1 m2 e k
  unfold gIx at e
  split at e
  · split at e
    · cases e
      rename_i d hd
      obtain ⟨j, h1, h2⟩ := atI_some hd
      obtain ⟨a, xs, rfl, ha, hl, hi⟩ := h.item m1
      obtain ⟨u, hu, q⟩ := hi j d h2
      exact .inl (.inl ⟨a, xs, _, u, rfl, h.int m2, .of ha, atI_of hl.symm h1 hu, k _ _ q⟩)
    · cases e
  · simp only [Option.map_eq_some_iff] at e
    obtain ⟨d, hd, rfl⟩ := e
    obtain ⟨j, h1, h2⟩ := atI_some hd
    obtain ⟨a, xs, rfl, ha, had⟩ := h.lst m1 rfl
    obtain ⟨u, hu, q⟩ := had.get h2
    exact .inl (.inl ⟨a, xs, _, u, rfl, h.int m2, .of ha, atI_of had.len.symm h1 hu, k _ _ q⟩)
  · simp only [Option.map_eq_some_iff] at e
    obtain ⟨d, hd, rfl⟩ := e
    obtain ⟨j, h1, h2⟩ := atI_some hd
    obtain ⟨a, xs, rfl, ha, had⟩ := h.tup m1 rfl
    obtain ⟨u, hu, q⟩ := had.get h2
    exact .inl (.inr (.inl ⟨a, xs, _, u, rfl, h.int m2, ha, atI_of had.len.symm h1 hu, k _ _ q⟩))
  · simp only [Option.map_eq_some_iff] at e
    obtain ⟨d, hd, rfl⟩ := e
    obtain ⟨j, h1, h2⟩ := atI_some hd
    obtain ⟨a, xs, rfl, ha, had⟩ := h.tup m1 rfl
    obtain ⟨u, hu, q⟩ := had.get h2
    exact .inl (.inr (.inl ⟨a, xs, _, u, rfl, h.int m2, ha, atI_of had.len.symm h1 hu, k _ _ q⟩))
  · split at e
    · simp only [Option.map_eq_some_iff] at e
      obtain ⟨d, hd, rfl⟩ := e
      rename_i hl
      exact .inl (.inr (.inr ⟨_, _, d, h.str m1, h.int m2, le_line hl, hd, k _ _ (h.pure fun _ => .str _)⟩))
    · cases e
  · split at e
    · rename_i k1 hk
      split at e
      · cases e
        rename_i d hd
        obtain ⟨a, ks, rfl, ha, hv⟩ := valD_own h m1
        obtain ⟨u, hu, q⟩ := hv _ _ hd
        have r2 := h.rep m2
        rw [fz, keyD_kD hk] at r2
        exact .inr ⟨a, u, rfl, by rw [rep_key r2, ← hu]; exact .k ha, k _ _ q⟩
      · cases e
    · cases e
  · split at e
    · rename_i k1 hk
      simp only [Option.map_eq_some_iff] at e
      obtain ⟨d, hd, rfl⟩ := e
      obtain ⟨S, sb, rd, ad, _⟩ := h.readS
      obtain ⟨F, z⟩ := rd _ m1
      have r2 := h.rep m2
      rw [fz, keyD_kD hk] at r2
      cases z with
      | sh z =>
        cases z with
        | dic ha e1 r =>
          have z := valD_rep e1 r k1
          rw [hd] at z
          obtain ⟨u, hu, ru⟩ := z
          exact .inr ⟨_, u, rfl, by rw [rep_key r2, ← hu]; exact .k (sb _ _ ha).1, k _ _ (ad _ _ ru)⟩
    · cases e
  · split at e
    · rename_i k1 hk
      split at e
      · cases e
        rename_i d hd
        obtain ⟨a, ks, rfl, ha, hv⟩ := valT_own h m1
        obtain ⟨u, hu, q⟩ := hv _ _ hd
        have r2 := h.rep m2
        rw [fz, keyT_tD hk] at r2
        obtain ⟨b, rfl, hb⟩ := rep_keyT r2
        exact .inr ⟨a, u, rfl, by rw [← hu]; exact .t ha hb, k _ _ q⟩
      · cases e
    · cases e
  · split at e
    · rename_i k1 hk
      simp only [Option.map_eq_some_iff] at e
      obtain ⟨d, hd, rfl⟩ := e
      obtain ⟨S, sb, rd, ad, _⟩ := h.readS
      obtain ⟨F, z⟩ := rd _ m1
      have r2 := h.rep m2
      rw [fz, keyT_tD hk] at r2
      obtain ⟨b, rfl, hb⟩ := rep_keyT r2
      cases z with
      | sh z =>
        cases z with
        | dit ha e1 r =>
          have z := valT_rep e1 r k1
          rw [hd] at z
          obtain ⟨u, hu, ru⟩ := z
          exact .inr ⟨_, u, rfl, by rw [← hu]; exact .t (sb _ _ ha).1 hb, k _ _ (ad _ _ ru)⟩
    · cases e
  · cases e
end
end Den
end
section
/-! Den, part F: slices, built-ins, displays. -/
namespace Den
open PySem L2
section
variable {Γ : Gb} {P : Nat → Bool} {W : WX}
theorem CallR.or {X : Cx} {f : Value} {r r' : List V → Hp → VK → Prop} (h : CallR X f r) (h' : CallR X f r') : CallR X f (fun xs H Q => r xs H Q ∨ r' xs H Q) := by
  intro pins s σ H xs us Q I rs q
  rcases q with q | q
  · exact h pins s σ H xs us Q I rs q
  · exact h' pins s σ H xs us Q I rs q
/-! ### slices -/
def aP (g : Option aE) : Store → Res (Option Int) := fun ρ => match g with
  | none => .ok none ρ
  | some g => (g ρ).bind fun o ρ' => match o with
    | .sh (.int i) => .ok (some i) ρ'
    | _ => .stuck
def Sxo (Γ : Gb) (P : Nat → Bool) (W : WX) (to : TO) (p : Store → Res (Option Int)) : Prop := ∀ f σ ρ T H Q, SR Γ P f σ ρ T H →
  Good Γ P W f σ T (fun i ρ' => ∀ H', SR Γ P f σ ρ' T H' → Q i H') (p ρ) → to σ H Q
theorem sxo_none : Sxo Γ P W tNoPart (aP none) := fun f σ ρ T H Q h k => k H h
theorem sxo_some {te : TE} {g : aE} (h1 : Sx Γ P W te g) : Sxo Γ P W (tPart te) (aP (some g)) := fun f σ ρ T H Q h k => by
  refine h1 f σ ρ T H _ h ((Good.bind k).imp fun o ρ' k v H' s => ?_)
  split at k
  · rename_i i
    have : v = .int i := s.rs.int (by simp)
    exact ⟨i, this, k H' s.drop⟩
  · exact k.elim
def SlOk (Γ : Gb) (r : V → Option Int → Option Int → Hp → VK → Prop) (g : O → Option Int → Option Int → Option O) : Prop := ∀ c R H x ox i j w Q, RS Γ c R H → (x, ox) ∈ R → g ox i j = some w →
  (∀ v H', RS Γ c ((v, w) :: R) H' → Q v H') → r x i j H Q
def aSl (od : Od) (lo hi : Option aE) (g : O → Option Int → Option Int → Option O) : aE := fun ρ => (evA [od] ρ).bind fun rs ρ1 => (aP lo ρ1).bind fun i ρ2 => (aP hi ρ2).bind fun j ρ3 => match rsv ρ3 rs with
  | some [o] => match g o i j with
    | some w => .ok w ρ3
    | none => .stuck
  | _ => .stuck
theorem sx_sl {ta : TE} {tl th : TO} {od : Od} {lo hi : Option aE} {r : V → Option Int → Option Int → Hp → VK → Prop} {g : O → Option Int → Option Int → Option O} (ha : Sa Γ P W (tCons ta tNil) [od]) (hl : Sxo Γ P W tl (aP lo)) (hh : Sxo Γ P W th (aP hi)) (hr : SlOk Γ r g) :
    Sx Γ P W (tSl r ta tl th) (aSl od lo hi g) := fun f σ ρ T H Q h k => by
  refine ha f σ ρ T H (fun vs H1 => match vs with
    | [x] => tl σ H1 fun l H2 => th σ H2 fun u H3 => r x l u H3 Q
    | _ => True) h ((Good.bind k).imp fun rs ρ1 k vs T' H1 m s => ?_)
  match vs, rs, m with
  | [x], [q], m =>
    refine hl f σ ρ1 (T' ++ T) H1 _ s ((Good.bind k).more.imp fun i ρ2 k H2 s2 => ?_)
    refine hh f σ ρ2 (T' ++ T) H2 _ s2 ((Good.bind k).more.imp fun j ρ3 k H3 s3 => ?_)
    split at k
    · rename_i o eo
      split at k
      · rename_i w ew
        obtain ⟨ps, p1, p2, mem⟩ := rsv_ok m s3 eo
        match ps, p1, p2 with
        | [(x', o')], p1, p2 =>
          obtain rfl : x' = x := by simpa using p1
          obtain rfl : o' = o := by simpa using p2
          refine hr f.c _ H3 x' o' i j w Q s3.rs (mem _ (by simp)) ew fun v H4 q => k v H4 ?_
          have z : SR Γ P f σ ρ3 ((v, w) :: (T' ++ T)) H4 := ⟨s3.ok, s3.fix, q.perm List.perm_middle.symm⟩
          exact (z.permT (T' := T' ++ (v, w) :: T) List.perm_middle.symm).dropL
      · exact k.elim
    · exact k.elim
  | [], _, _ => trivial
  | _ :: _ :: _, _, _ => trivial
def cutD {α : Type} (ds : List α) (lo hi : Option Int) : List α := (ds.drop (HT.sIx ds.length 0 lo)).take (HT.sIx ds.length ds.length hi - HT.sIx ds.length 0 lo)
theorem RepL.cut {S : Hp} {xs : List V} {ds : List D} (r : RepL Γ S xs ds) (lo hi : Option Int) : RepL Γ S (cutV xs lo hi) (cutD ds lo hi) := by
  unfold cutV cutD
  rw [r.len]
  exact (r.drop _).take _
def gSl (o : O) (lo hi : Option Int) : Option O := match o with
  | .sh (.str z) => if z.length ≤ 16000000 then some (.sh (.str (cutS z lo hi))) else none
  | o => match tupS o with
    | some ds => some (.sh (.tup (cutD ds lo hi)))
    | none => match lstD o with
      | some ds => some (.lst ((cutD ds lo hi).map O.sh))
      | none => none
def rSlG (K : PySem.W.Frag) : V → Option Int → Option Int → Hp → VK → Prop := fun x lo hi H Q => rSlS x lo hi H Q ∨ rSlA K x lo hi H Q ∨ rSlL K x lo hi H Q
theorem or_sl {X : Cx} : SlR X (rSlG X.K) := sl_str.or (sl_tupA.or sl_list)
theorem ok_sl : SlOk Γ (rSlG Γ.K) gSl := by
  intro c R H x ox i j w Q h m e k
  unfold gSl at e
  split at e
  · split at e
    · cases e
      rename_i hl
      exact .inl ⟨_, h.str m, le_line hl, k _ _ (h.pure fun _ => .str _)⟩
    · cases e
  · split at e
    · cases e
      rename_i ds et
      obtain ⟨a, xs, rfl, ha, had⟩ := h.tup m (tupS_D et)
      obtain ⟨S, sb, r, q⟩ := had.ex
      have hc : Had Γ c R H (cutV xs i j) (cutD ds i j) := ⟨S, sb, r.cut i j, q⟩
      refine .inr (.inl ⟨a, xs, rfl, ha, fun z => ?_, fun _ p hp => k _ _ (hc.newT hp)⟩)
      have : cutD ds i j = ds := by
        unfold cutD
        rw [r.len] at z
        rw [z.1, z.2, List.drop_zero, Nat.sub_zero, List.take_length]
      rw [this] at k
      rw [tupS_sh et] at m
      exact k _ _ (h.dup m)
    · split at e
      · cases e
        rename_i ds et
        obtain ⟨a, xs, rfl, ha, had⟩ := h.lst m et
        obtain ⟨S, sb, r, q⟩ := had.ex
        have hc : Had Γ c R H (cutV xs i j) (cutD ds i j) := ⟨S, sb, r.cut i j, q⟩
        exact .inr (.inr ⟨a, xs, rfl, .of ha, fun p hp => k _ _ (hc.newL hp)⟩)
      · cases e

/-! ### built-ins -/
/-- a call of a built-in with one argument -/
def C1 (r : List V → Hp → VK → Prop) : V → Hp → VK → Prop := fun x H Q => r [x] H Q
theorem sx_call1 {ta : TE} {od : Od} {r : List V → Hp → VK → Prop} {g : O → Option O} (ha : Sa Γ P W (tCons ta tNil) [od]) (h : Op1 Γ (C1 r) g) : Sx Γ P W (tCB r (tCons ta tNil)) (aOp [od] (l1 g)) := show Sx Γ P W (fun σ H Q => ta σ H fun x H1 => C1 r x H1 Q) _ from sx_op1 ha h
theorem sx_call2 {ta tb : TE} {od oe : Od} {r : List V → Hp → VK → Prop} {g : O → O → Option O} (ha : Sa Γ P W (tCons ta (tCons tb tNil)) [od, oe]) (h : Op2 Γ (fun x y H Q => r [x, y] H Q) g) : Sx Γ P W (tCB r (tCons ta (tCons tb tNil))) (aOp [od, oe] (l2 g)) := sx_op2 ha h
def gLen : O → Option O
  | .lst os => some (.sh (.int os.length))
  | .dic kvs => some (.sh (.int kvs.length))
  | .sh (.lst ds) => some (.sh (.int ds.length))
  | .sh (.tup ds) => some (.sh (.int ds.length))
  | .sh (.ktp ds) => some (.sh (.int ds.length))
  | .dit kvs => some (.sh (.int kvs.length))
  | .sh (.dit kvs) => some (.sh (.int kvs.length))
  | .sh (.wls ds) => some (.sh (.int ds.length))
  | .sh (.dic ds) => some (.sh (.int ds.length))
  | .sh (.str z) => if z.length ≤ 16000000 then some (.sh (.int z.length)) else none
  | _ => none
def rLenG (K : PySem.W.Frag) : List V → Hp → VK → Prop := fun xs H Q => (∃ x n, xs = [x] ∧ LenV K x H n ∧ Q (.int n) H) ∨ (∃ a kvs, xs = [V.ref a] ∧ H a = some (.dK kvs) ∧ Q (.int kvs.length) H) ∨ rLenT xs H Q
theorem or_len {X : Cx} : CallR X (.builtin "len") (rLenG X.K) := CallR.or call_len (CallR.or call_lenD call_len_dT)
theorem ok_len : Op1 Γ (C1 (rLenG Γ.K)) gLen := by
  intro c R H x ox w Q h m e k
  have r := h.rep m
  unfold gLen at e
  split at e
  · cases e
    rw [fz] at r
    cases r with
    | lst ha hl =>
      refine .inl ⟨_, _, rfl, .inl ⟨_, .of ha, rfl⟩, ?_⟩
      rw [hl.len, fzL_map, List.length_map]
      exact k _ _ (h.pure fun _ => .int _)
  · cases e
    rw [fz] at r
    cases r with
    | dic ha e1 hl =>
      refine .inr (.inl ⟨_, _, rfl, ha, ?_⟩)
      have q := congrArg List.length e1
      rw [List.length_map, List.length_map, fzKV_map, List.length_map] at q
      rw [← q]
      exact k _ _ (h.pure fun _ => .int _)
  · cases e
    rw [fz] at r
    cases r with
    | lst ha hl =>
      refine .inl ⟨_, _, rfl, .inl ⟨_, .of ha, rfl⟩, ?_⟩
      rw [hl.len]
      exact k _ _ (h.pure fun _ => .int _)
  · cases e
    rw [fz] at r
    cases r with
    | tup ha hl =>
      refine .inl ⟨_, _, rfl, .inr ⟨_, .inl (.of ha), rfl⟩, ?_⟩
      rw [hl.len]
      exact k _ _ (h.pure fun _ => .int _)
  · cases e
    rw [fz] at r
    cases r with
    | ktp ha hl =>
      refine .inl ⟨_, _, rfl, .inr ⟨_, ha, rfl⟩, ?_⟩
      rw [hl.len]
      exact k _ _ (h.pure fun _ => .int _)
  · cases e
    rw [fz] at r
    cases r with
    | dit ha e1 hl =>
      refine .inr (.inr ⟨_, _, rfl, ha, ?_⟩)
      have q := congrArg List.length e1
      rw [List.length_map, List.length_map, fzKV_map, List.length_map] at q
      rw [← q]
      exact k _ _ (h.pure fun _ => .int _)
  · cases e
    rw [fz] at r
    cases r with
    | dit ha e1 hl =>
      refine .inr (.inr ⟨_, _, rfl, ha, ?_⟩)
      have q := congrArg List.length e1
      rw [List.length_map, List.length_map] at q
      rw [← q]
      exact k _ _ (h.pure fun _ => .int _)
  · cases e
    rw [fz] at r
    cases r with
    | wls ha hl =>
      refine .inl ⟨_, _, rfl, .inl ⟨_, ha, rfl⟩, ?_⟩
      rw [hl.len]
      exact k _ _ (h.pure fun _ => .int _)
  · cases e
    rw [fz] at r
    cases r with
    | dic ha e1 hl =>
      refine .inr (.inl ⟨_, _, rfl, ha, ?_⟩)
      have q := congrArg List.length e1
      rw [List.length_map, List.length_map] at q
      rw [← q]
      exact k _ _ (h.pure fun _ => .int _)
  · split at e
    · cases e
      rename_i hl
      obtain rfl := h.str m
      exact .inl ⟨_, _, rfl, ⟨le_line hl, rfl⟩, k _ _ (h.pure fun _ => .int _)⟩
    · cases e
  · cases e
/-- a written list: its items -/
theorem RS.wls {c : Ent} {R : List (V × O)} {H : Hp} {v : V} {ds : List D} (h : RS Γ c R H) (m : (v, O.sh (.wls ds)) ∈ R) : ∃ a xs, v = .ref a ∧ SqL Γ.K H a xs ∧ Had Γ c R H xs ds := by
  obtain ⟨S, sb, rd, ad⟩ := h.readS
  obtain ⟨F, x⟩ := rd _ m
  cases x with
  | sh r =>
    cases r with
    | wls ha hl => exact ⟨_, _, rfl, sqL_mono (fun a o e => (sb a o e).1) ha, ⟨S, sb, hl, ad⟩⟩
def gList : O → Option O
  | .sh (.wls ds) => some (.lst (ds.map O.sh))
  | o => match tupD o with
    | some ds => some (.lst (ds.map O.sh))
    | none => match lstD o with
      | some ds => some (.lst (ds.map O.sh))
      | none => match dicD o with
        | some kvs => some (.lst ((kvs.map Prod.fst).map O.sh))
        | none => match ditD o with
          | some kvs => some (.lst ((kvs.map Prod.fst).map O.sh))
          | none => none
def rListG (K : PySem.W.Frag) : List V → Hp → VK → Prop := fun xs H Q => (∃ p ys, xs = [.ref p] ∧ (SqL K H p ys ∨ SqT K H p ys) ∧ ∀ l, H l = none → Q (.ref l) (upd H l (.lst ys))) ∨
  (∃ (a : Addr) (kvs : List (Key × V)), xs = [.ref a] ∧ Rd H a (.dK kvs) ∧ ∀ p, H p = none → Q (.ref p) (upd H p (.lst (kvs.map fun kv => kV kv.1)))) ∨
  (∃ d kvs, xs = [V.ref d] ∧ Rd H d (.dT kvs) ∧ ∀ p bs, H p = none → IsKeys H kvs bs → Q (.ref p) (upd H p (.lst (bs.map V.ref))))
theorem or_list {X : Cx} (hc : X.calm = true) : CallR X (.type "list") (rListG X.K) := CallR.or call_list_of (CallR.or (call_listD hc) (call_list_dT hc))
theorem repL_keys {S : Hp} : ∀ ks : List (Key × V), RepL Γ S (ks.map fun kv => kV kv.1) (ks.map fun kv => kD kv.1)
  | [] => .nil
  | (k, v) :: ks => .cons (by cases k <;> constructor) (repL_keys ks)
theorem repL_scals {S : Hp} : ∀ k : List Key, RepL Γ S (k.map kV) (k.map kD)
  | [] => .nil
  | j :: k => .cons (by cases j <;> constructor) (repL_scals k)
theorem RS.addKeys {c : Ent} {R : List (V × O)} {H : Hp} {ks : List (List Key × V)} {bs : List Addr} (h : RS Γ c R H) (q : IsKeys H ks bs) : RS Γ c ((bs.map V.ref).zip ((ks.map fun p => tD p.1).map O.sh) ++ R) H := by
  unfold IsKeys at q
  induction q with
  | nil => exact h
  | @cons p b ps qs hb t ih => exact ih.addT (b := b) (ds := p.1.map kD) hb fun S _ _ => repL_scals p.1
theorem isKeys_len {H : Hp} {ks : List (List Key × V)} {bs : List Addr} (q : IsKeys H ks bs) : bs.length = ks.length := (Paired.length q).symm
theorem ok_list : Op1 Γ (C1 (rListG Γ.K)) gList := by
  intro c R H x ox w Q h m e k
  unfold gList at e
  split at e
  · cases e
    obtain ⟨a, xs, rfl, ha, had⟩ := h.wls m
    exact .inl ⟨a, xs, rfl, .inl ha, fun p hp => k _ _ (had.newL hp)⟩
  · split at e
    · cases e
      rename_i et
      obtain ⟨a, xs, rfl, ha, had⟩ := h.tup m et
      exact .inl ⟨a, xs, rfl, .inr ha, fun p hp => k _ _ (had.newL hp)⟩
    · split at e
      · cases e
        rename_i et
        obtain ⟨a, xs, rfl, ha, had⟩ := h.lst m et
        exact .inl ⟨a, xs, rfl, .inl (.of ha), fun p hp => k _ _ (had.newL hp)⟩
      · split at e
        · cases e
          rename_i kvs ed
          obtain ⟨a, ks, rfl, ha, e1, _⟩ := h.dic m ed
          obtain ⟨S, sb, rd, q⟩ := h.readS
          have hc : Had Γ c R H (ks.map fun kv => kV kv.1) (kvs.map Prod.fst) := ⟨S, sb, by rw [e1]; exact repL_keys ks, q⟩
          exact .inr (.inl ⟨a, ks, rfl, .inl ha, fun p hp => k _ _ (hc.newL hp)⟩)
        · split at e
          · cases e
            rename_i kvs ed
            obtain ⟨a, ks, rfl, ha, e1, _⟩ := h.dit m ed
            refine .inr (.inr ⟨a, ks, rfl, .inl ha, fun p bs hp q => k _ _ ?_⟩)
            have hl := isKeys_len q
            have z := (h.addKeys q).newL hp
            rw [zip_fst (by rw [List.length_map, List.length_map, hl]), zip_snd (by rw [List.length_map, List.length_map, hl]), ← e1] at z
            exact z
          · cases e
def gTuple (o : O) : Option O := match tupS o with
  | some ds => some (.sh (.tup ds))
  | none => match lstD o with
    | some ds => some (.sh (.tup ds))
    | none => none
theorem ok_tuple : Op1 Γ (C1 fun xs H Q => ∃ p ys, xs = [.ref p] ∧ ((SqL Γ.K H p ys ∧ ∀ l, H l = none → Q (.ref l) (upd H l (.tup ys))) ∨ (SqT Γ.K H p ys ∧ Q (.ref p) H))) gTuple := by
  intro c R H x ox w Q h m e k
  unfold gTuple at e
  split at e
  · cases e
    rename_i et
    obtain ⟨a, xs, rfl, ha, had⟩ := h.tup m (tupS_D et)
    rw [tupS_sh et] at m
    exact ⟨a, xs, rfl, .inr ⟨ha, k _ _ (h.dup m)⟩⟩
  · split at e
    · cases e
      rename_i et
      obtain ⟨a, xs, rfl, ha, had⟩ := h.lst m et
      exact ⟨a, xs, rfl, .inl ⟨.of ha, fun p hp => k _ _ (had.newT hp)⟩⟩
    · cases e
def gInt : O → Option O
  | .sh (.int i) => some (.sh (.int i))
  | .sh (.bl b) => some (.sh (.int (if b then 1 else 0)))
  | .sh (.str a) => if a.length ≤ 640 then (PySem.intText? a).map fun n => .sh (.int n) else none
  | _ => none
def rIntG : List V → Hp → VK → Prop := fun xs H Q => ((∃ i, xs = [.int i] ∧ Q (.int i) H) ∨ ∃ k, xs = [.bl k] ∧ Q (.int (if k then 1 else 0)) H) ∨ (∃ a n, xs = [.str a] ∧ PySem.intText? a = some n ∧ a.length ≤ 640 ∧ Q (.int n) H)
theorem or_int {X : Cx} : CallR X (.type "int") rIntG := CallR.or call_int1 call_int_str
theorem ok_int : Op1 Γ (C1 rIntG) gInt := by
  intro c R H x ox w Q h m e k
  unfold gInt at e
  split at e
  · cases e
    obtain rfl := h.int m
    exact .inl (.inl ⟨_, rfl, k _ _ (h.pure fun _ => .int _)⟩)
  · cases e
    obtain rfl := h.bl m
    exact .inl (.inr ⟨_, rfl, k _ _ (h.pure fun _ => .int _)⟩)
  · split at e
    · rename_i hl
      simp only [Option.map_eq_some_iff] at e
      obtain ⟨n, en, rfl⟩ := e
      obtain rfl := h.str m
      exact .inr ⟨_, n, rfl, en, hl, k _ _ (h.pure fun _ => .int _)⟩
    · cases e
  · cases e
def gStr : O → Option O
  | .sh (.int i) => if i.natAbs.log2 < 1920 then some (.sh (.str (toString i))) else none
  | .sh (.str a) => some (.sh (.str a))
  | _ => none
def rStrG : List V → Hp → VK → Prop := fun xs H Q => (∃ i, xs = [.int i] ∧ i.natAbs.log2 < 1920 ∧ Q (.str (toString i)) H) ∨ (∃ a, xs = [.str a] ∧ Q (.str a) H)
theorem or_str {X : Cx} : CallR X (.type "str") rStrG := CallR.or call_str_int SkE.call_str_str
theorem ok_str : Op1 Γ (C1 rStrG) gStr := by
  intro c R H x ox w Q h m e k
  unfold gStr at e
  split at e
  · split at e
    · cases e
      rename_i hl
      obtain rfl := h.int m
      exact .inl ⟨_, rfl, hl, k _ _ (h.pure fun _ => .str _)⟩
    · cases e
  · cases e
    obtain rfl := h.str m
    exact .inr ⟨_, rfl, k _ _ (h.pure fun _ => .str _)⟩
  · cases e
def gMin2 : O → O → Option O
  | .sh (.int i), .sh (.int j) => some (.sh (.int (if j < i then j else i)))
  | _, _ => none
def gMax2 : O → O → Option O
  | .sh (.int i), .sh (.int j) => some (.sh (.int (if j > i then j else i)))
  | _, _ => none
theorem ok_min2 : Op2 Γ (fun x y H Q => (fun xs H (Q : VK) => ∃ i j : Int, xs = [V.int i, .int j] ∧ Q (.int (if j < i then j else i)) H) [x, y] H Q) gMin2 := by
  intro c R H x ox y oy w Q h m1 m2 e k
  unfold gMin2 at e
  split at e
  · cases e
    obtain rfl := h.int m1
    obtain rfl := h.int m2
    exact ⟨_, _, rfl, k _ _ (h.pure fun _ => .int _)⟩
  · cases e
theorem ok_max2 : Op2 Γ (fun x y H Q => (fun xs H (Q : VK) => ∃ i j : Int, xs = [V.int i, .int j] ∧ Q (.int (if j > i then j else i)) H) [x, y] H Q) gMax2 := by
  intro c R H x ox y oy w Q h m1 m2 e k
  unfold gMax2 at e
  split at e
  · cases e
    obtain rfl := h.int m1
    obtain rfl := h.int m2
    exact ⟨_, _, rfl, k _ _ (h.pure fun _ => .int _)⟩
  · cases e
def intsD : List D → Option (List Int)
  | [] => some []
  | .int i :: r => (intsD r).map (i :: ·)
  | _ :: _ => none
theorem intsD_some : ∀ {ds : List D} {ns : List Int}, intsD ds = some ns → ds = ns.map D.int
  | [], _, e => by cases e; rfl
  | .int i :: r, _, e => by
    simp only [intsD, Option.map_eq_some_iff] at e
    obtain ⟨ns, e, rfl⟩ := e
    rw [intsD_some e, List.map_cons]
theorem intsD_map : ∀ ns : List Int, intsD (ns.map D.int) = some ns
  | [] => rfl
  | n :: ns => by rw [List.map_cons, intsD, intsD_map ns, Option.map_some]
def boolsD : List D → Option (List Bool)
  | [] => some []
  | .bl i :: r => (boolsD r).map (i :: ·)
  | _ :: _ => none
theorem boolsD_some : ∀ {ds : List D} {ns : List Bool}, boolsD ds = some ns → ds = ns.map D.bl
  | [], _, e => by cases e; rfl
  | .bl i :: r, _, e => by
    simp only [boolsD, Option.map_eq_some_iff] at e
    obtain ⟨ns, e, rfl⟩ := e
    rw [boolsD_some e, List.map_cons]
theorem boolsD_map : ∀ ns : List Bool, boolsD (ns.map D.bl) = some ns
  | [] => rfl
  | n :: ns => by rw [List.map_cons, boolsD, boolsD_map ns, Option.map_some]
def strsD : List D → Option (List Str)
  | [] => some []
  | .str i :: r => (strsD r).map (i :: ·)
  | _ :: _ => none
theorem strsD_some : ∀ {ds : List D} {ns : List Str}, strsD ds = some ns → ds = ns.map D.str
  | [], _, e => by cases e; rfl
  | .str i :: r, _, e => by
    simp only [strsD, Option.map_eq_some_iff] at e
    obtain ⟨ns, e, rfl⟩ := e
    rw [strsD_some e, List.map_cons]
theorem strsD_map : ∀ ns : List Str, strsD (ns.map D.str) = some ns
  | [] => rfl
  | n :: ns => by rw [List.map_cons, strsD, strsD_map ns, Option.map_some]
def onInts (f : List Int → Option Int) (o : O) : Option O := match lstD o with
  | some ds => match intsD ds with
    | some ns => (f ns).map fun m => .sh (.int m)
    | none => none
  | none => none
def onBools (f : List Bool → Bool) (o : O) : Option O := match lstD o with
  | some ds => match boolsD ds with
    | some ns => some (.sh (.bl (f ns)))
    | none => none
  | none => none
def gMinL := onInts List.min?
def gMaxL := onInts List.max?
def gSum := onInts fun ns => some ns.sum
def gAny := onBools fun bs => bs.any id
def gAll := onBools fun bs => bs.all id
theorem RS.ints {c : Ent} {R : List (V × O)} {H : Hp} {v : V} {o : O} {ds : List D} {ns : List Int} (h : RS Γ c R H) (m : (v, o) ∈ R) (e : lstD o = some ds) (e2 : intsD ds = some ns) : ∃ a, v = .ref a ∧ SqL Γ.K H a (ns.map V.int) := by
  obtain ⟨a, xs, rfl, ha, had⟩ := h.lst m e
  obtain ⟨S, sb, r, _⟩ := had.ex
  rw [intsD_some e2] at r
  rw [r.ints] at ha
  exact ⟨a, rfl, .of ha⟩
theorem RS.bools {c : Ent} {R : List (V × O)} {H : Hp} {v : V} {o : O} {ds : List D} {ns : List Bool} (h : RS Γ c R H) (m : (v, o) ∈ R) (e : lstD o = some ds) (e2 : boolsD ds = some ns) : ∃ a, v = .ref a ∧ SqL Γ.K H a (ns.map V.bl) := by
  obtain ⟨a, xs, rfl, ha, had⟩ := h.lst m e
  obtain ⟨S, sb, r, _⟩ := had.ex
  rw [boolsD_some e2] at r
  rw [r.bools] at ha
  exact ⟨a, rfl, .of ha⟩
theorem RS.strs {c : Ent} {R : List (V × O)} {H : Hp} {v : V} {o : O} {ds : List D} {ns : List Str} (h : RS Γ c R H) (m : (v, o) ∈ R) (e : lstD o = some ds) (e2 : strsD ds = some ns) : ∃ a, v = .ref a ∧ H a = some (.lst (ns.map V.str)) := by
  obtain ⟨a, xs, rfl, ha, had⟩ := h.lst m e
  obtain ⟨S, sb, r, _⟩ := had.ex
  rw [strsD_some e2] at r
  rw [r.strs] at ha
  exact ⟨a, rfl, ha⟩
theorem ok_minL : Op1 Γ (C1 (rMin Γ.K)) gMinL := by
  intro c R H x ox w Q h m e k
  unfold gMinL onInts at e
  split at e
  · rename_i ds e1
    split at e
    · rename_i ns e2
      simp only [Option.map_eq_some_iff] at e
      obtain ⟨z, ez, rfl⟩ := e
      obtain ⟨a, rfl, ha⟩ := h.ints m e1 e2
      have hz := List.min?_eq_some_iff.mp ez
      refine ⟨a, ns, rfl, ha, List.length_pos_of_mem hz.1, fun y hy hle => ?_⟩
      have : y = z := Int.le_antisymm (hle z hz.1) (hz.2 y hy)
      rw [this]
      exact k _ _ (h.pure fun _ => .int _)
    · cases e
  · cases e
theorem ok_maxL : Op1 Γ (C1 (rMax Γ.K)) gMaxL := by
  intro c R H x ox w Q h m e k
  unfold gMaxL onInts at e
  split at e
  · rename_i ds e1
    split at e
    · rename_i ns e2
      simp only [Option.map_eq_some_iff] at e
      obtain ⟨z, ez, rfl⟩ := e
      obtain ⟨a, rfl, ha⟩ := h.ints m e1 e2
      have hz := List.max?_eq_some_iff.mp ez
      refine ⟨a, ns, rfl, ha, List.length_pos_of_mem hz.1, fun y hy hle => ?_⟩
      have : y = z := Int.le_antisymm (hz.2 y hy) (hle z hz.1)
      rw [this]
      exact k _ _ (h.pure fun _ => .int _)
    · cases e
  · cases e
theorem ok_sum : Op1 Γ (C1 (rSum Γ.K)) gSum := by
  intro c R H x ox w Q h m e k
  unfold gSum onInts at e
  split at e
  · rename_i ds e1
    split at e
    · rename_i ns e2
      cases e
      obtain ⟨a, rfl, ha⟩ := h.ints m e1 e2
      exact ⟨a, ns, rfl, ha, k _ _ (h.pure fun _ => .int _)⟩
    · cases e
  · cases e
theorem ok_any : Op1 Γ (C1 (rAny Γ.K)) gAny := by
  intro c R H x ox w Q h m e k
  unfold gAny onBools at e
  split at e
  · rename_i ds e1
    split at e
    · rename_i ns e2
      cases e
      obtain ⟨a, rfl, ha⟩ := h.bools m e1 e2
      exact ⟨a, ns, rfl, ha, k _ _ (h.pure fun _ => .bl _)⟩
    · cases e
  · cases e
theorem ok_all : Op1 Γ (C1 (rAll Γ.K)) gAll := by
  intro c R H x ox w Q h m e k
  unfold gAll onBools at e
  split at e
  · rename_i ds e1
    split at e
    · rename_i ns e2
      cases e
      obtain ⟨a, rfl, ha⟩ := h.bools m e1 e2
      exact ⟨a, ns, rfl, ha, k _ _ (h.pure fun _ => .bl _)⟩
    · cases e
  · cases e
end
end Den
end
section
/-! Den, part G: sorting of texts, isinstance. -/
namespace Den
open PySem L2 PySem.Spec PyProof.Rows
section
variable {Γ : Gb} {P : Nat → Bool} {W : WX}
/-! ### sorted of texts -/
def leStr (a b : Str) : Bool := !ltCps b.cps.toList a.cps.toList
def sortStr (xs : List Str) : List Str := xs.mergeSort leStr
theorem ltCps_lt (a b : List Nat) : ltCps a b = decide (a < b) := PyProof.Rows.ltCps_eq a b
theorem leStr_iff {a b : Str} : leStr a b = true ↔ ¬ b.cps.toList < a.cps.toList := by
  unfold leStr
  rw [ltCps_lt, Bool.not_eq_true', decide_eq_false_iff_not]
theorem leStr_trans {a b c : Str} (h1 : leStr a b = true) (h2 : leStr b c = true) : leStr a c = true := by
  rw [leStr_iff] at *
  have h1 : a.cps.toList ≤ b.cps.toList := h1
  have h2 : b.cps.toList ≤ c.cps.toList := h2
  exact List.le_trans h1 h2
theorem leStr_total (a b : Str) : (leStr a b || leStr b a) = true := by
  rw [Bool.or_eq_true, leStr_iff, leStr_iff]
  rcases List.le_total a.cps.toList b.cps.toList with h | h
  · exact .inl h
  · exact .inr h
theorem str_ext {a b : Str} (h : a.cps.toList = b.cps.toList) : a = b := by
  obtain ⟨⟨x⟩⟩ := a
  obtain ⟨⟨y⟩⟩ := b
  have : x = y := h
  rw [this]
theorem leStr_antisymm {a b : Str} (h1 : leStr a b = true) (h2 : leStr b a = true) : a = b := by
  rw [leStr_iff] at *
  have h1 : a.cps.toList ≤ b.cps.toList := h1
  have h2 : b.cps.toList ≤ a.cps.toList := h2
  exact str_ext (List.le_antisymm h1 h2)
theorem sortStr_perm (xs : List Str) : (sortStr xs).Perm xs := List.mergeSort_perm xs leStr
theorem sortStr_sorted (xs : List Str) : (sortStr xs).Pairwise (fun a b => leStr a b = true) := List.pairwise_mergeSort (le := leStr) (fun a b c h1 h2 => leStr_trans h1 h2) (fun a b => leStr_total a b) xs
theorem rising_all : ∀ {l : List Str} {p : Str}, risingS p l = true → (p :: l).Pairwise (fun a b => leStr a b = true)
  | [], p, _ => by simp
  | x :: r, p, h => by
    simp only [risingS, Bool.and_eq_true] at h
    have ih := rising_all h.2
    refine List.pairwise_cons.mpr ⟨fun b hb => ?_, ih⟩
    rcases List.mem_cons.mp hb with rfl | hb
    · exact h.1
    · exact leStr_trans h.1 ((List.pairwise_cons.mp ih).1 b hb)
theorem sorted_all {l : List Str} (h : sortedS l = true) : l.Pairwise (fun a b => leStr a b = true) := by
  cases l with
  | nil => simp
  | cons x r => exact rising_all h
theorem sortStr_eq {xs ys : List Str} (p : ys.Perm xs) (h : sortedS ys = true) : ys = sortStr xs :=
  List.Perm.eq_of_pairwise (le := fun a b => leStr a b = true) (fun a b _ _ h1 h2 => leStr_antisymm h1 h2) (sorted_all h) (sortStr_sorted xs) (p.trans (sortStr_perm xs).symm)
def gSortedS (o : O) : Option O := match lstD o with
  | some ds => match strsD ds with
    | some ss => if ss.length < 64 then some (.lst (((sortStr ss).map D.str).map O.sh)) else none
    | none => none
  | none => none
theorem ok_sortedS : Op1 Γ (C1 (rSortedS Γ.K)) gSortedS := by
  intro c R H x ox w Q h m e k
  unfold gSortedS at e
  split at e
  · rename_i ds e1
    split at e
    · rename_i ss e2
      split at e
      · cases e
        rename_i hl
        obtain ⟨a, rfl, ha⟩ := h.strs m e1 e2
        refine ⟨a, ss, rfl, .of ha, hl, fun ys p hp hs hn => ?_⟩
        rw [sortStr_eq hp hs]
        obtain ⟨S, sb, rd, q⟩ := h.readS
        have hc : Had Γ c R H ((sortStr ss).map V.str) ((sortStr ss).map D.str) := ⟨S, sb, repL_strs, q⟩
        exact k _ _ (hc.newL hn)
      · cases e
    · cases e
  · cases e
/-! ### isinstance of built-in classes -/
def tyN : D → Option String
  | .non => some "NoneType"
  | .bl _ => some "bool"
  | .int _ => some "int"
  | .str _ => some "str"
  | .tup _ => some "tuple"
  | .lst _ => some "list"
  | .wls _ => some "list"
  | .ktp _ => some "tuple"
  | .dic _ => some "dict"
  | .dit _ => some "dict"
  | _ => none
def isTy (t n : String) : Bool := t == n || (t == "bool" && n == "int")
def okTy (n : String) : Bool := n == "int" || n == "bool" || n == "str" || n == "tuple" || n == "list" || n == "dict"
theorem kit_all (t n : String) (ht : t = "NoneType" ∨ t = "bool" ∨ t = "int" ∨ t = "str" ∨ t = "tuple" ∨ t = "list" ∨ t = "dict") (hn : n = "int" ∨ n = "bool" ∨ n = "str" ∨ n = "tuple" ∨ n = "list" ∨ n = "dict") : kitB t n = some (isTy t n) := by
  rcases ht with rfl | rfl | rfl | rfl | rfl | rfl | rfl <;> rcases hn with rfl | rfl | rfl | rfl | rfl | rfl <;> decide +kernel
theorem tyN_ok {d : D} {t : String} (e : tyN d = some t) : t = "NoneType" ∨ t = "bool" ∨ t = "int" ∨ t = "str" ∨ t = "tuple" ∨ t = "list" ∨ t = "dict" := by
  cases d <;> simp [tyN] at e <;> subst e <;> simp
theorem ty_of {H : Hp} {v : V} {d : D} {t : String} (r : Rep Γ H v d) (e : tyN d = some t) : TyX Γ.K H v (.type t) := by
  cases r with
  | non => cases e; exact .base .non
  | bl b => cases e; exact .base (.bl b)
  | int i => cases e; exact .base (.int i)
  | str x => cases e; exact .base (.str x)
  | tup hs _ =>
    cases e
    exact .base (.tup hs)
  | ktp hs _ =>
    cases e
    rcases hs with (hs | ⟨o, hs⟩) | ⟨o, its, n, hk, hc, _⟩
    · exact .base (.tup hs)
    · exact .fTuple hs
    · exact .kTuple hk hc
  | lst hs _ => cases e; exact .base (.lst hs)
  | wls hs _ =>
    cases e
    rcases hs with (hs | ⟨o, hs⟩) | ⟨o, its, n, hk, hc, _⟩
    · exact .base (.lst hs)
    · exact .base (.frz hs)
    · exact .kList hk hc
  | dic hs _ _ => cases e; exact .base (.dK hs)
  | dit hs _ _ => cases e; exact .base (.dT hs)
  | obj _ _ _ => cases e
  | xd _ _ _ => cases e
def gIsi (n : String) (o : O) : Option O := (tyN (fz o)).map fun t => .sh (.bl (isTy t n))
theorem ok_isi {n : String} (hn : n = "int" ∨ n = "bool" ∨ n = "str" ∨ n = "tuple" ∨ n = "list" ∨ n = "dict") : Op1 Γ (fun x H Q => rIsi Γ.K [x, .ty n] H Q) (gIsi n) := by
  intro c R H x ox w Q h m e k
  simp only [gIsi, Option.map_eq_some_iff] at e
  obtain ⟨t, et, rfl⟩ := e
  exact ⟨x, .ty n, .type t, .type n, _, rfl, .ty n, ty_of (h.rep m) et, kit_ty (kit_all t n (tyN_ok et) hn), k _ _ (h.pure fun _ => .bl _)⟩
def gIsi2 (n1 n2 : String) (o : O) : Option O := (tyN (fz o)).map fun t => .sh (.bl (isTy t n1 || isTy t n2))
theorem ok_isi2 {n1 n2 : String} (h1 : n1 = "int" ∨ n1 = "bool" ∨ n1 = "str" ∨ n1 = "tuple" ∨ n1 = "list" ∨ n1 = "dict") (h2 : n2 = "int" ∨ n2 = "bool" ∨ n2 = "str" ∨ n2 = "tuple" ∨ n2 = "list" ∨ n2 = "dict") :
    Op1 Γ (fun x H Q => ([V.ty n1, V.ty n2] : List V).length ≤ sizeLine ∧ ∀ p, H p = none → rIsiT Γ.K [x, .ref p] (upd H p (.tup [.ty n1, .ty n2])) Q) (gIsi2 n1 n2) := by
  intro c R H x ox w Q h m e k
  simp only [gIsi2, Option.map_eq_some_iff] at e
  obtain ⟨t, et, rfl⟩ := e
  refine ⟨by show 2 ≤ sizeLine; decide, fun p hp => ?_⟩
  have h' : RS Γ c R (upd H p (.tup [.ty n1, .ty n2])) := (h.new hp noT_tup).letgo
  refine ⟨x, p, [.ty n1, .ty n2], .type t, [.type n1, .type n2], _, rfl, upd_same, .cons (.ty n1) (.cons (.ty n2) .nil), ty_of (h'.rep m) et, ?_, k _ _ (h'.pure fun _ => .bl _)⟩
  have k1 := kit_ty (K := Γ.K) (kit_all t n1 (tyN_ok et) h1)
  have k2 := kit_ty (K := Γ.K) (kit_all t n2 (tyN_ok et) h2)
  refine kitAny_cons k1 (fun z => kitAny_cons k2 (fun z2 => ?_) fun z2 => by rw [z2, Bool.or_true]) fun z => by rw [z, Bool.true_or]
  rw [z, z2]
  rfl
end
end Den
end
section
/-! Den, part H: expressions as they stand in a text, with what they do. -/
namespace Den
open PySem L2 PySem.Spec PyProof.Rows
/-! ### names, constants -/
def aVar (i : Nat) : aE := fun ρ => match ρ[i]? with
  | some (some (.sh d)) => .ok (.sh d) ρ
  | some (some o) => .ok (.sh (fz o)) (ρ.set i (some (.sh (fz o))))
  | _ => .stuck
/-- a name's own thing is moved out of it -/
def aMove (i : Nat) : aE := fun ρ => match ρ[i]? with
  | some (some (.sh d)) => .ok (.sh d) ρ
  | some (some o) => .ok o (ρ.set i none)
  | _ => .stuck
def aC (d : D) : aE := fun ρ => .ok (.sh d) ρ
def aFz (g : aE) : aE := fun ρ => (g ρ).bind fun o ρ' => .ok (.sh (fz o)) ρ'
def aB (g : aE) : aT := fun ρ => (g ρ).bind fun o ρ' => match o with
  | .sh (.bl b) => .ok b ρ'
  | _ => .stuck
def truD : D → Option Bool
  | .non => some false
  | .bl b => some b
  | .int i => some (i != 0)
  | .str y => if y.length ≤ 16000000 then some ((y.length : Int) != 0) else none
  | .lst ds => some (!ds.isEmpty)
  | .tup ds => some (!ds.isEmpty)
  | .dic kvs => some (!kvs.isEmpty)
  | _ => none
def aTru (od : Od) : aT := fun ρ => (evA [od] ρ).bind fun rs ρ' => match rsv ρ' rs with
  | some [o] => match truD (fz o) with
    | some b => .ok b ρ'
    | none => .stuck
  | _ => .stuck
def aAnd (p q : aT) : aT := fun ρ => (p ρ).bind fun b ρ' => if b = true then q ρ' else .ok false ρ'
def aOr (p q : aT) : aT := fun ρ => (p ρ).bind fun b ρ' => if b = true then .ok true ρ' else q ρ'
def aNot (p : aT) : aT := fun ρ => (p ρ).bind fun b ρ' => .ok (!b) ρ'
def aIfE (p : aT) (g h : aE) : aE := fun ρ => (p ρ).bind fun b ρ' => if b = true then g ρ' else h ρ'
/-- a test's answer as a value -/
def aTV (p : aT) : aE := fun ρ => (p ρ).bind fun b ρ' => .ok (.sh (.bl b)) ρ'
/-- and, or as values, the first one True or False -/
def aAndV (p : aT) (g : aE) : aE := fun ρ => (p ρ).bind fun b ρ' => if b = true then g ρ' else .ok (.sh (.bl false)) ρ'
def aOrV (p : aT) (g : aE) : aE := fun ρ => (p ρ).bind fun b ρ' => if b = true then .ok (.sh (.bl true)) ρ' else g ρ'
section
variable {Γ : Gb} {P : Nat → Bool} {W : WX} {te ta tb : TE} {tt tu : TT} {g h : aE} {p q : aT} {i : Nat} {od : Od}
theorem SR.dupSlot {f : Fr} {σ : L2.St} {ρ : Store} {T : List (V × O)} {H : Hp} {d : D} (s : SR Γ P f σ ρ T H) (e : ρ[i]? = some (some (.sh d))) : ∃ v, σ[i]? = some (some v) ∧ SR Γ P f σ ρ ((v, .sh d) :: T) H := by
  obtain ⟨v, hv, _⟩ := s.take e
  refine ⟨v, hv, s.ok, s.fix, ?_⟩
  exact (s.rs.dup (v := v) (d := d) (List.mem_append_left _ (slots_mem s.ok e hv))).perm List.perm_middle.symm
theorem SR.dup0 {f : Fr} {σ : L2.St} {ρ : Store} {T : List (V × O)} {H : Hp} {v : V} {d : D} (s : SR Γ P f σ ρ ((v, .sh d) :: T) H) : SR Γ P f σ ρ ((v, .sh d) :: (v, .sh d) :: T) H :=
  s.mapT (T' := (v, .sh d) :: (v, .sh d) :: T) fun R q => q.dup (by simp)
theorem sx_var : Sx Γ P W (tVar i) (aVar i) := fun f σ ρ T H Q s k => by
  unfold aVar at k
  split at k
  · rename_i d e
    obtain ⟨v, hv, s'⟩ := s.dupSlot e
    exact ⟨v, hv, k v H s'⟩
  · rename_i o _ e
    obtain ⟨v, hv, s'⟩ := s.take e
    refine ⟨v, hv, k v H ?_⟩
    have z := (s'.fz.dup0).back hv
    rw [List.set_set] at z
    exact z
  · exact k.elim
theorem sx_move : Sx Γ P W (tVar i) (aMove i) := fun f σ ρ T H Q s k => by
  unfold aMove at k
  split at k
  · rename_i d e
    obtain ⟨v, hv, s'⟩ := s.dupSlot e
    exact ⟨v, hv, k v H s'⟩
  · rename_i o _ e
    obtain ⟨v, hv, s'⟩ := s.take e
    exact ⟨v, hv, k v H s'⟩
  · exact k.elim
theorem sx_c {v : V} {d : D} (r : ∀ S, Rep Γ S v d) : Sx Γ P W (tC v) (aC d) := fun f σ ρ T H Q s k => k v H (s.pure r)
theorem sx_fz (h1 : Sx Γ P W te g) : Sx Γ P W te (aFz g) := fun f σ ρ T H Q s k =>
  h1 f σ ρ T H Q s ((Good.bind k).imp fun o ρ' k v H' s' => k v H' s'.fz)
theorem sxt_b (h1 : Sx Γ P W te g) : Sxt Γ P W (tTest te) (aB g) := fun f σ ρ T H Q s k => by
  refine h1 f σ ρ T H _ s ((Good.bind k).imp fun o ρ' k v H' s' => ?_)
  split at k
  · rename_i b
    have : v = .bl b := s'.rs.bl (by simp)
    exact ⟨b, this, k H' s'.drop⟩
  · exact k.elim
theorem tru_of {S H : Hp} (sb : Sub S H) {v : V} {d : D} {b : Bool} (r : Rep Γ H v d) (e : truD d = some b) : TruV Γ.K v H b := by
  cases r with
  | non => cases e; rfl
  | bl b => cases e; rfl
  | int i => cases e; rfl
  | str x =>
    simp only [truD] at e
    split at e
    · cases e
      rename_i hl
      exact ⟨le_line hl, rfl⟩
    · cases e
  | tup hs hl =>
    cases e
    refine .inr (.inl ⟨_, .of hs, ?_⟩)
    cases hl <;> rfl
  | ktp hs hl => cases e
  | lst hs hl =>
    cases e
    refine .inl ⟨_, .of hs, ?_⟩
    cases hl <;> rfl
  | wls hs hl => cases e
  | dic hs e1 hl =>
    cases e
    refine .inr (.inr ⟨_, hs, ?_⟩)
    rename_i kvs dkvs
    cases kvs <;> cases dkvs <;> first | rfl | (simp at e1)
  | dit _ _ _ => cases e
  | obj _ _ _ => cases e
  | xd _ _ _ => cases e
theorem sxt_tru (ha : Sa Γ P W (tCons ta tNil) [od]) : Sxt Γ P W (fun σ H Q => ta σ H fun x H' => ∃ k, TruV Γ.K x H' k ∧ Q k H') (aTru od) := fun f σ ρ T H Q s k => by
  refine ha f σ ρ T H (fun vs H' => match vs with
    | [x] => ∃ k, TruV Γ.K x H' k ∧ Q k H'
    | _ => True) s ((Good.bind k).imp fun rs ρ1 k vs T' H1 m s1 => ?_)
  match vs, rs, m with
  | [x], [q], m =>
    split at k
    · rename_i o eo
      split at k
      · rename_i b eb
        obtain ⟨ps, p1, p2, mem⟩ := rsv_ok m s1 eo
        match ps, p1, p2 with
        | [(x', o')], p1, p2 =>
          obtain rfl : x' = x := by simpa using p1
          obtain rfl : o' = o := by simpa using p2
          obtain ⟨S, sb, _⟩ := s1.rs.readS
          exact ⟨b, tru_of sb (s1.rs.rep (mem _ (by simp))) eb, k H1 s1.dropL⟩
      · exact k.elim
    · exact k.elim
  | [], _, _ => trivial
  | _ :: _ :: _, _, _ => trivial
theorem sxt_and (h1 : Sxt Γ P W tt p) (h2 : Sxt Γ P W tu q) : Sxt Γ P W (tAnd tt tu) (aAnd p q) := fun f σ ρ T H Q s k => by
  refine h1 f σ ρ T H _ s ((Good.bind k).imp fun b ρ' k H' s' => ?_)
  cases b with
  | true => exact iteT (h2 f σ ρ' T H' Q s' k)
  | false => exact iteF (k H' s')
theorem sxt_or (h1 : Sxt Γ P W tt p) (h2 : Sxt Γ P W tu q) : Sxt Γ P W (tOr tt tu) (aOr p q) := fun f σ ρ T H Q s k => by
  refine h1 f σ ρ T H _ s ((Good.bind k).imp fun b ρ' k H' s' => ?_)
  cases b with
  | true => exact iteT (k H' s')
  | false => exact iteF (h2 f σ ρ' T H' Q s' k)
theorem sxt_not (h1 : Sxt Γ P W tt p) : Sxt Γ P W (tNot tt) (aNot p) := fun f σ ρ T H Q s k =>
  h1 f σ ρ T H _ s ((Good.bind k).imp fun b ρ' k H' s' => k H' s')
theorem sx_if (h1 : Sxt Γ P W tt p) (h2 : Sx Γ P W ta g) (h3 : Sx Γ P W tb h) : Sx Γ P W (tIf tt ta tb) (aIfE p g h) := fun f σ ρ T H Q s k => by
  refine h1 f σ ρ T H _ s ((Good.bind k).imp fun b ρ' k H' s' => ?_)
  cases b with
  | true => exact iteT (h2 f σ ρ' T H' Q s' k)
  | false => exact iteF (h3 f σ ρ' T H' Q s' k)
theorem sx_andV (h1 : Sx Γ P W ta g) (h2 : Sx Γ P W tb h) : Sx Γ P W (tAndV ta tb) (aAndV (aB g) h) := fun f σ ρ T H Q s k => by
  refine h1 f σ ρ T H _ s ((Good.bind (Good.bind k)).imp fun o ρ' k v H' s' => ?_)
  split at k
  · rename_i b
    have : v = .bl b := s'.rs.bl (by simp)
    refine ⟨b, this, ?_⟩
    cases b with
    | true => exact iteT (h2 f σ ρ' T H' Q s'.drop k)
    | false => exact iteF (k _ H' (s'.drop.pure fun _ => .bl _))
  · exact k.elim
theorem sx_orV (h1 : Sx Γ P W ta g) (h2 : Sx Γ P W tb h) : Sx Γ P W (tOrV ta tb) (aOrV (aB g) h) := fun f σ ρ T H Q s k => by
  refine h1 f σ ρ T H _ s ((Good.bind (Good.bind k)).imp fun o ρ' k v H' s' => ?_)
  split at k
  · rename_i b
    have : v = .bl b := s'.rs.bl (by simp)
    refine ⟨b, this, ?_⟩
    cases b with
    | true => exact iteT (k _ H' (s'.drop.pure fun _ => .bl _))
    | false => exact iteF (h2 f σ ρ' T H' Q s'.drop k)
  · exact k.elim
theorem sx_notV (h1 : Sx Γ P W ta g) : Sx Γ P W (tNotV ta) (aTV (aNot (aB g))) := fun f σ ρ T H Q s k => by
  refine h1 f σ ρ T H _ s ((Good.bind (Good.bind (Good.bind k))).imp fun o ρ' k v H' s' => ?_)
  split at k
  · rename_i b
    have : v = .bl b := s'.rs.bl (by simp)
    exact ⟨b, this, k _ H' (s'.drop.pure fun _ => .bl _)⟩
  · exact k.elim
end
/-! ### displays -/
def gTup (os : List O) : Option O := match shs os with
  | some ds => if ds.length ≤ 16000000 then some (.sh (.tup ds)) else none
  | none => none
def gLst (os : List O) : Option O := if os.length ≤ 16000000 then some (.lst os) else none
section
variable {Γ : Gb} {P : Nat → Bool} {W : WX}
theorem RS.hadAll {c : Ent} {R : List (V × O)} {H : Hp} (h : RS Γ c R H) {ps : List (V × O)} (mem : ∀ p ∈ ps, p ∈ R) {ds : List D} (e : shs (ps.map Prod.snd) = some ds) : Had Γ c R H (ps.map Prod.fst) ds := by
  obtain ⟨S, sb, rd, ad⟩ := h.readS
  refine ⟨S, sb, ?_, ad⟩
  have z := shs_some e
  clear e
  induction ps generalizing ds with
  | nil =>
    cases ds with
    | nil => exact .nil
    | cons _ _ => cases z
  | cons p ps ih =>
    obtain ⟨v, o⟩ := p
    cases ds with
    | nil => cases z
    | cons d ds =>
      simp only [List.map_cons, List.cons.injEq] at z
      obtain ⟨rfl, z⟩ := z
      obtain ⟨F, x⟩ := rd _ (mem (v, .sh d) (by simp))
      exact .cons (by cases x with | sh r => exact r) (ih (fun p hp => mem p (by simp [hp])) z)
theorem ok_tupD : OpOk Γ (fun xs H Q => xs.length ≤ sizeLine ∧ ∀ p, H p = none → Q (.ref p) (upd H p (.tup xs))) gTup := by
  intro c R H ps o Q h mem e k
  unfold gTup at e
  split at e
  · rename_i ds es
    split at e
    · cases e
      rename_i hl
      have had := h.hadAll mem es
      exact ⟨le_line (by rw [had.len]; exact hl), fun p hp => k _ _ (had.newT hp)⟩
    · cases e
  · cases e
def gLstS (os : List O) : Option O := match shs os with
  | some ds => if ds.length ≤ 16000000 then some (.lst (ds.map O.sh)) else none
  | none => none
theorem ok_lstD : OpOk Γ (fun xs H Q => xs.length ≤ sizeLine ∧ ∀ p, H p = none → Q (.ref p) (upd H p (.lst xs))) gLstS := by
  intro c R H ps o Q h mem e k
  unfold gLstS at e
  split at e
  · rename_i ds es
    split at e
    · cases e
      rename_i hl
      have had := h.hadAll mem es
      exact ⟨le_line (by rw [had.len]; exact hl), fun p hp => k _ _ (had.newL hp)⟩
    · cases e
  · cases e
end

/-! ### as they stand in a text -/
structure AE (X : Cx) (Γ : Gb) (P : Nat → Bool) (W : WX) (e : Expr) (te : TE) (g : aE) : Prop where
  pe : PE X e te
  sx : Sx Γ P W te g
structure AT (X : Cx) (Γ : Gb) (P : Nat → Bool) (W : WX) (e : Expr) (tt : TT) (g : aT) : Prop where
  pt : PT X e tt
  sx : Sxt Γ P W tt g
structure AO (X : Cx) (Γ : Gb) (P : Nat → Bool) (W : WX) (e : Expr) (te : TE) (od : Od) : Prop where
  pe : PE X e te
  sa : ∀ {ta : TA} {ods : List Od}, Sa Γ P W ta ods → Sa Γ P W (tCons te ta) (od :: ods)
structure AA (X : Cx) (Γ : Gb) (P : Nat → Bool) (W : WX) (es : List Expr) (ta : TA) (ods : List Od) : Prop where
  pa : PA X es ta
  sa : Sa Γ P W ta ods
section
variable {X : Cx} {Γ : Gb} {P : Nat → Bool} {W : WX} {te ta tb : TE} {tas : TA} {tt tu : TT} {g h : aE} {p q : aT} {od oa ob : Od} {ods : List Od} {e a b : Expr} {es : List Expr} {pos : Pos} {k : Nat}
theorem ae_var (i : Nat) {x : Str} (hN : X.N[i]? = some x := by rfl) (hv : Vis X.env.scope x := by first | exact Or.inl rfl | exact Or.inr (Or.inl rfl) | exact Or.inr (Or.inr rfl)) (hd : (x == ("__debug__" : Str)) = false := by decide)
    (hcd : (x == ("__classdict__" : Str)) = false := by decide) : AE X Γ P W (.Name x pos) (tVar i) (aVar i) := ⟨pe_var hN hv hd hcd, sx_var⟩
theorem ae_move (i : Nat) {x : Str} (hN : X.N[i]? = some x := by rfl) (hv : Vis X.env.scope x := by first | exact Or.inl rfl | exact Or.inr (Or.inl rfl) | exact Or.inr (Or.inr rfl)) (hd : (x == ("__debug__" : Str)) = false := by decide)
    (hcd : (x == ("__classdict__" : Str)) = false := by decide) : AE X Γ P W (.Name x pos) (tVar i) (aMove i) := ⟨pe_var hN hv hd hcd, sx_move⟩
theorem ao_pl (i : Nat) {x : Str} (hN : X.N[i]? = some x := by rfl) (hv : Vis X.env.scope x := by first | exact Or.inl rfl | exact Or.inr (Or.inl rfl) | exact Or.inr (Or.inr rfl)) (hd : (x == ("__debug__" : Str)) = false := by decide)
    (hcd : (x == ("__classdict__" : Str)) = false := by decide) : AO X Γ P W (.Name x pos) (tVar i) (.pl i) := ⟨pe_var hN hv hd hcd, sa_pl⟩
theorem ao_ex (h : AE X Γ P W e te g) : AO X Γ P W e te (.ex g) := ⟨h.pe, sa_ex h.sx⟩
theorem ao_fz (h : AE X Γ P W e te g) : AO X Γ P W e te (.ex (aFz g)) := ⟨h.pe, sa_ex (sx_fz h.sx)⟩
theorem ae_fz (h : AE X Γ P W e te g) : AE X Γ P W e te (aFz g) := ⟨h.pe, sx_fz h.sx⟩
theorem aa_nil : AA X Γ P W [] tNil [] := ⟨pa_nil, sa_nil⟩
theorem aa_cons (h1 : AO X Γ P W e te od) (h2 : AA X Γ P W es tas ods) (hs : starEach (e :: es) X.env = (false, eval e X.env) :: starEach es X.env := by rfl) : AA X Γ P W (e :: es) (tCons te tas) (od :: ods) :=
  ⟨pa_cons h1.pe h2.pa hs, h1.sa h2.sa⟩
theorem ae_int {i : Int} {j : Nat} : AE X Γ P W (.Constant (.int i) j pos) (tC (.int i)) (aC (.int i)) := ⟨pe_int, sx_c fun _ => .int _⟩
theorem ae_bl {b : Bool} {j : Nat} : AE X Γ P W (.Constant (.bool b) j pos) (tC (.bl b)) (aC (.bl b)) := ⟨pe_bl, sx_c fun _ => .bl _⟩
theorem ae_str {x : Str} {j : Nat} : AE X Γ P W (.Constant (.str x) j pos) (tC (.str x)) (aC (.str x)) := ⟨pe_str, sx_c fun _ => .str _⟩
theorem ae_non {j : Nat} : AE X Γ P W (.Constant .none j pos) (tC .non) (aC .non) := ⟨pe_non, sx_c fun _ => .non⟩
theorem ae_glob {x : Str} {v : V} {u : Value} {d : D} (hm : X.mg x = some u) (r : RelV v u) (rp : ∀ S, Rep Γ S v d) (hg : Gl X x := by rfl) (hd : (x == ("__debug__" : Str)) = false := by decide) : AE X Γ P W (.Name x pos) (tC v) (aC d) :=
  ⟨pe_glob hg hm r hd, sx_c rp⟩
theorem ae_bin {op : Operator} {r : R2} {f : O → O → Option O} (ok : Op2 Γ r f) (ho : OpR X (binaryOp op) r) (ha : AO X Γ P W a ta oa) (hb : AO X Γ P W b tb ob) : AE X Γ P W (.BinOp a op b pos) (tOp r ta tb) (aOp [oa, ob] (l2 f)) :=
  ⟨pe_op ho ha.pe hb.pe, sx_op2 (ha.sa (hb.sa sa_nil)) ok⟩
theorem sx_un {r : V → Hp → VK → Prop} {f : O → Option O} (ha : Sa Γ P W (tCons ta tNil) [oa]) (ok : Op1 Γ r f) : Sx Γ P W (tUn r ta) (aOp [oa] (l1 f)) := show Sx Γ P W (fun σ H Q => ta σ H fun x H1 => r x H1 Q) _ from sx_op1 ha ok
theorem sx_isN (ha : Sa Γ P W (tCons ta tNil) [oa]) : Sx Γ P W (tIsN ta) (aOp [oa] (l1 gIsN)) := show Sx Γ P W (fun σ H Q => ta σ H fun x H1 => (fun x H (Q : VK) => Q (.bl (decide (x = .non))) H) x H1 Q) _ from sx_op1 ha ok_isN
theorem sx_notN (ha : Sa Γ P W (tCons ta tNil) [oa]) : Sx Γ P W (tNotN ta) (aOp [oa] (l1 gNotN)) := show Sx Γ P W (fun σ H Q => ta σ H fun x H1 => (fun x H (Q : VK) => Q (.bl (!decide (x = .non))) H) x H1 Q) _ from sx_op1 ha ok_notN
theorem ae_un {op : UnaryOp} {r : V → Hp → VK → Prop} {f : O → Option O} (ok : Op1 Γ r f) (ho : UnR X (unaryOp op) r) (ha : AO X Γ P W a ta oa) : AE X Γ P W (.UnaryOp op a pos) (tUn r ta) (aOp [oa] (l1 f)) :=
  ⟨pe_un ho ha.pe, sx_un (ha.sa sa_nil) ok⟩
theorem ae_cmp {op : CmpOp} {r : R2} {f : O → O → Option O} (ok : Op2 Γ r f) (ho : OpR X (compareOp op) r) (ha : AO X Γ P W a ta oa) (hb : AO X Γ P W b tb ob) (hm : behindInMarks op b = false := by first | exact nomark _ | rfl) :
    AE X Γ P W (.Compare a [op] [b] pos) (tOp r ta tb) (aOp [oa, ob] (l2 f)) := ⟨pe_cmpR ho ha.pe hb.pe hm, sx_op2 (ha.sa (hb.sa sa_nil)) ok⟩
theorem at_cmp {op : CmpOp} {r : R2} {f : O → O → Option O} (ok : Op2 Γ r f) (ho : OpR X (compareOp op) r) (ha : AO X Γ P W a ta oa) (hb : AO X Γ P W b tb ob) (hm : behindInMarks op b = false := by first | exact nomark _ | rfl) :
    AT X Γ P W (.Compare a [op] [b] pos) (tTest (tOp r ta tb)) (aB (aOp [oa, ob] (l2 f))) := ⟨pt_cmpR ho ha.pe hb.pe hm, sxt_b (sx_op2 (ha.sa (hb.sa sa_nil)) ok)⟩
theorem ae_isN {j : Nat} {pos' : Pos} (ha : AO X Γ P W a ta oa) : AE X Γ P W (.Compare a [.Is] [.Constant .none j pos'] pos) (tIsN ta) (aOp [oa] (l1 gIsN)) := ⟨pe_cmp (pc_isN ha.pe), sx_isN (ha.sa sa_nil)⟩
theorem ae_notN {j : Nat} {pos' : Pos} (ha : AO X Γ P W a ta oa) : AE X Γ P W (.Compare a [.IsNot] [.Constant .none j pos'] pos) (tNotN ta) (aOp [oa] (l1 gNotN)) := ⟨pe_cmp (pc_notN ha.pe), sx_notN (ha.sa sa_nil)⟩
theorem at_isN {j : Nat} {pos' : Pos} (ha : AO X Γ P W a ta oa) : AT X Γ P W (.Compare a [.Is] [.Constant .none j pos'] pos) (tB (tIsN ta)) (aB (aOp [oa] (l1 gIsN))) := ⟨pt_cmp (pc_isN ha.pe), sxt_b (sx_isN (ha.sa sa_nil))⟩
theorem at_notN {j : Nat} {pos' : Pos} (ha : AO X Γ P W a ta oa) : AT X Γ P W (.Compare a [.IsNot] [.Constant .none j pos'] pos) (tB (tNotN ta)) (aB (aOp [oa] (l1 gNotN))) := ⟨pt_cmp (pc_notN ha.pe), sxt_b (sx_notN (ha.sa sa_nil))⟩
theorem sx_tOpC {r : R2} {v : V} {f : O → Option O} (ok : Op1 Γ (fun x H Q => r x v H Q) f) (ha : Sa Γ P W (tCons ta tNil) [oa]) : Sx Γ P W (tOp r ta (tC v)) (aOp [oa] (l1 f)) :=
  show Sx Γ P W (fun σ H Q => ta σ H fun x H1 => (fun x H Q => r x v H Q) x H1 Q) _ from sx_op1 ha ok
theorem ae_isB {c : Bool} {j : Nat} {pos' : Pos} (ha : AO X Γ P W a ta oa) : AE X Γ P W (.Compare a [.Is] [.Constant (.bool c) j pos'] pos) (tOp rIsBG ta (tC (.bl c))) (aOp [oa] (l1 (gIsB c))) := ⟨pe_cmpR op_isBG ha.pe pe_bl (nomark _), sx_tOpC ok_isB (ha.sa sa_nil)⟩
theorem ae_notB {c : Bool} {j : Nat} {pos' : Pos} (ha : AO X Γ P W a ta oa) : AE X Γ P W (.Compare a [.IsNot] [.Constant (.bool c) j pos'] pos) (tOp rNotBG ta (tC (.bl c))) (aOp [oa] (l1 (gNotB c))) := ⟨pe_cmpR op_notBG ha.pe pe_bl (nomark _), sx_tOpC ok_notB (ha.sa sa_nil)⟩
theorem at_isB {c : Bool} {j : Nat} {pos' : Pos} (ha : AO X Γ P W a ta oa) : AT X Γ P W (.Compare a [.Is] [.Constant (.bool c) j pos'] pos) (tTest (tOp rIsBG ta (tC (.bl c)))) (aB (aOp [oa] (l1 (gIsB c)))) := ⟨pt_cmpR op_isBG ha.pe pe_bl (nomark _), sxt_b (sx_tOpC ok_isB (ha.sa sa_nil))⟩
theorem at_notB {c : Bool} {j : Nat} {pos' : Pos} (ha : AO X Γ P W a ta oa) : AT X Γ P W (.Compare a [.IsNot] [.Constant (.bool c) j pos'] pos) (tTest (tOp rNotBG ta (tC (.bl c)))) (aB (aOp [oa] (l1 (gNotB c)))) := ⟨pt_cmpR op_notBG ha.pe pe_bl (nomark _), sxt_b (sx_tOpC ok_notB (ha.sa sa_nil))⟩
theorem ae_ix (hr : Room k X.A) (hK : X.K = Γ.K) (ha : AO X Γ P W a ta oa) (hb : AO X Γ P W b tb ob) (hs : PlainIx b := by exact fun _ _ => rfl) : AE X Γ P W (.Subscript a b pos) (tOp (rIxG Γ.K) ta tb) (aOp [oa, ob] (l2 gIx)) :=
  ⟨pe_ix (hK ▸ or_ix (by have := hr.un; omega)) ha.pe hb.pe hs, sx_op2 (ha.sa (hb.sa sa_nil)) ok_ix⟩
/-- a part of a slice -/
structure AP (X : Cx) (Γ : Gb) (P : Nat → Bool) (W : WX) (e : Option Expr) (to : TO) (p : Option aE) : Prop where
  po : PO X e to
  sx : Sxo Γ P W to (aP p)
theorem ap_none : AP X Γ P W none tNoPart none := ⟨po_none, sxo_none⟩
theorem ap_some (h : AE X Γ P W e te g) : AP X Γ P W (some e) (tPart te) (some g) := ⟨po_some h.pe, sxo_some h.sx⟩
theorem ae_sl {lo hi : Option Expr} {tl th : TO} {pl ph : Option aE} {p2 : Pos} (hK : X.K = Γ.K) (ha : AO X Γ P W a ta oa) (hl : AP X Γ P W lo tl pl) (hh : AP X Γ P W hi th ph) : AE X Γ P W (.Subscript a (.Slice lo hi none p2) pos) (tSl (rSlG Γ.K) ta tl th) (aSl oa pl ph gSl) :=
  ⟨pe_slice (hK ▸ or_sl) ha.pe hl.po hh.po, sx_sl (ha.sa sa_nil) hl.sx hh.sx ok_sl⟩
theorem ae_tup {x1 : Nat} (ha : AA X Γ P W es tas ods) : AE X Γ P W (.Tuple es x1 pos) (tTup tas) (aOp ods gTup) := ⟨pe_tup ha.pa, sx_op ha.sa ok_tupD⟩
theorem ae_lst (ha : AA X Γ P W es tas ods) : AE X Γ P W (.List es pos) (tLst tas) (aOp ods gLstS) := ⟨pe_lst ha.pa, sx_op ha.sa ok_lstD⟩
theorem ae_ifE {c : Expr} (hc : AT X Γ P W c tt p) (ha : AE X Γ P W a ta g) (hb : AE X Γ P W b tb h) : AE X Γ P W (.IfExp c a b pos) (tIf tt ta tb) (aIfE p g h) := ⟨pe_ifExp hc.pt ha.pe hb.pe, sx_if hc.sx ha.sx hb.sx⟩
theorem ae_and2 {rest : List Expr} (ha : AE X Γ P W a ta g) (hb : AE X Γ P W (.BoolOp .And (b :: rest) pos) tb h) : AE X Γ P W (.BoolOp .And (a :: b :: rest) pos) (tAndV ta tb) (aAndV (aB g) h) := ⟨pe_and ha.pe hb.pe, sx_andV ha.sx hb.sx⟩
theorem ae_or2 {rest : List Expr} (ha : AE X Γ P W a ta g) (hb : AE X Γ P W (.BoolOp .Or (b :: rest) pos) tb h) : AE X Γ P W (.BoolOp .Or (a :: b :: rest) pos) (tOrV ta tb) (aOrV (aB g) h) := ⟨pe_or ha.pe hb.pe, sx_orV ha.sx hb.sx⟩
theorem ae_one {op : BoolOp} (ha : AE X Γ P W a ta g) : AE X Γ P W (.BoolOp op [a] pos) ta g := ⟨pe_one ha.pe, ha.sx⟩
theorem ae_not (ha : AE X Γ P W a ta g) : AE X Γ P W (.UnaryOp .Not a pos) (tNotV ta) (aTV (aNot (aB g))) := ⟨pe_not ha.pe, sx_notV ha.sx⟩
theorem at_val (ha : AE X Γ P W e te g) (he : ∀ whole, isTrue e X.env whole = (do let v ← whole; standAt e.pos; holding [v] (truthy v)) := by intro _; rfl) : AT X Γ P W e (tB te) (aB g) := ⟨pt_val ha.pe he, sxt_b ha.sx⟩
theorem at_tru (hK : X.K = Γ.K) (ha : AO X Γ P W e te od) (he : ∀ whole, isTrue e X.env whole = (do let v ← whole; standAt e.pos; holding [v] (truthy v)) := by intro _; rfl) : AT X Γ P W e (fun σ H Q => te σ H fun x H' => ∃ k, TruV Γ.K x H' k ∧ Q k H') (aTru od) :=
  ⟨hK ▸ pt_truth ha.pe he, sxt_tru (ha.sa sa_nil)⟩
theorem at_not (ha : AT X Γ P W e tt p) : AT X Γ P W (.UnaryOp .Not e pos) (tNot tt) (aNot p) := ⟨pt_not ha.pt, sxt_not ha.sx⟩
/-- a chain of and, or as a test -/
structure AW (X : Cx) (Γ : Gb) (P : Nat → Bool) (W : WX) (e : Expr) (tt : TT) (g : aT) : Prop where
  pw : PW X e tt
  sx : Sxt Γ P W tt g
theorem aw_and1 (ha : AT X Γ P W a tt p) : AW X Γ P W (.BoolOp .And [a] pos) tt p := ⟨pw_and1 ha.pt, ha.sx⟩
theorem aw_or1 (ha : AT X Γ P W a tt p) : AW X Γ P W (.BoolOp .Or [a] pos) tt p := ⟨pw_or1 ha.pt, ha.sx⟩
theorem aw_and {rest : List Expr} (ha : AT X Γ P W a tt p) (hb : AW X Γ P W (.BoolOp .And (b :: rest) pos) tu q) : AW X Γ P W (.BoolOp .And (a :: b :: rest) pos) (tAnd tt tu) (aAnd p q) := ⟨pw_and ha.pt hb.pw, sxt_and ha.sx hb.sx⟩
theorem aw_or {rest : List Expr} (ha : AT X Γ P W a tt p) (hb : AW X Γ P W (.BoolOp .Or (b :: rest) pos) tu q) : AW X Γ P W (.BoolOp .Or (a :: b :: rest) pos) (tOr tt tu) (aOr p q) := ⟨pw_or ha.pt hb.pw, sxt_or ha.sx hb.sx⟩
theorem at_w (h : AW X Γ P W e tt p) : AT X Γ P W e tt p := ⟨h.pw.pt, h.sx⟩
/-! calls of built-ins -/
theorem ae_b1 {id : String} {x : Str} {r : List V → Hp → VK → Prop} {f : O → Option O} {pn : Pos} (ok : Op1 Γ (C1 r) f) (hr : CallR X (.builtin id) r) (hm : X.mg x = none) (hv : bootBuiltins x = some (.builtin id)) (ha : AO X Γ P W a ta oa) (hg : Gl X x := by rfl)
    (hn : x ≠ "__name__" := by decide) (hdb : (x == ("__debug__" : Str)) = false := by decide) (he : starEach (a :: []) X.env = (false, eval a X.env) :: starEach [] X.env := by rfl) (hpl : (backTo pos (starEach [] X.env)).any (·.1) = false := by rfl) :
    AE X Γ P W (.Call (.Name x pn) [a] [] pos) (tCB r (tCons ta tNil)) (aOp [oa] (l1 f)) := ⟨pe_callB hr hg hm hv (pa_cons ha.pe pa_nil he) hn hdb he hpl, sx_call1 (ha.sa sa_nil) ok⟩
theorem ae_t1 {id : String} {x : Str} {r : List V → Hp → VK → Prop} {f : O → Option O} {pn : Pos} (ok : Op1 Γ (C1 r) f) (hr : CallR X (.type id) r) (hm : X.mg x = none) (hv : bootBuiltins x = some (.type id)) (ha : AO X Γ P W a ta oa) (hg : Gl X x := by rfl)
    (hn : x ≠ "__name__" := by decide) (hdb : (x == ("__debug__" : Str)) = false := by decide) (he : starEach (a :: []) X.env = (false, eval a X.env) :: starEach [] X.env := by rfl) (hpl : (backTo pos (starEach [] X.env)).any (·.1) = false := by rfl) :
    AE X Γ P W (.Call (.Name x pn) [a] [] pos) (tCB r (tCons ta tNil)) (aOp [oa] (l1 f)) := ⟨pe_callTy hr hg hm hv (pa_cons ha.pe pa_nil he) hn hdb he hpl, sx_call1 (ha.sa sa_nil) ok⟩
theorem ae_b2 {id : String} {x : Str} {r : List V → Hp → VK → Prop} {f : O → O → Option O} {pn : Pos} (ok : Op2 Γ (fun x y H Q => r [x, y] H Q) f) (hr : CallR X (.builtin id) r) (hm : X.mg x = none) (hv : bootBuiltins x = some (.builtin id)) (ha : AO X Γ P W a ta oa) (hb : AO X Γ P W b tb ob) (hg : Gl X x := by rfl)
    (hn : x ≠ "__name__" := by decide) (hdb : (x == ("__debug__" : Str)) = false := by decide) (he : starEach (a :: [b]) X.env = (false, eval a X.env) :: starEach [b] X.env := by rfl) (he2 : starEach (b :: []) X.env = (false, eval b X.env) :: starEach [] X.env := by rfl) (hpl : (backTo pos (starEach [b] X.env)).any (·.1) = false := by rfl) :
    AE X Γ P W (.Call (.Name x pn) [a, b] [] pos) (tCB r (tCons ta (tCons tb tNil))) (aOp [oa, ob] (l2 f)) := ⟨pe_callB hr hg hm hv (pa_cons ha.pe (pa_cons hb.pe pa_nil he2) he) hn hdb he hpl, sx_call2 (ha.sa (hb.sa sa_nil)) ok⟩
end
end Den
end
section
/-! Den, part I: what a for walks. -/
namespace Den
open PySem L2 PySem.Spec PyProof.Rows RZ
/-- an iterator that hands out the items ds, while the things Rj are held -/
structure IterOk (Γ : Gb) (J : It) (ds : List D) (Rj : List (V × O)) : Prop where
  go : ∀ c R i H, RS Γ c (Rj ++ R) H → i < ds.length → J.go i H
  stop : ∀ c R H, RS Γ c (Rj ++ R) H → J.stop ds.length H
  yld : ∀ c R i d x H H', RS Γ c (Rj ++ R) H → ds[i]? = some d → J.yld i H x H' → RS Γ c ((x, .sh d) :: (Rj ++ R)) H'
abbrev aI := Store → Res (List D)
def Sxi (Γ : Gb) (P : Nat → Bool) (W : WX) (wi : TI) (src : aI) : Prop := ∀ f σ ρ T H (R : It → Hp → Prop), SR Γ P f σ ρ T H →
  Good Γ P W f σ T (fun ds ρ' => ∀ J Rj H', IterOk Γ J ds Rj → SR Γ P f σ ρ' (Rj ++ T) H' → R J H') (src ρ) → wi σ H R
structure AI (X : Cx) (Γ : Gb) (P : Nat → Bool) (W : WX) (tg e : Expr) (wi : TI) (src : aI) : Prop where
  pi : PI X tg e wi
  sx : Sxi Γ P W wi src
/-- the items of a list, a tuple, a text -/
def itemsD : O → Option (List D)
  | .sh (.lst ds) => some ds
  | .sh (.wls ds) => some ds
  | .sh (.tup ds) => some ds
  | .sh (.str z) => some (z.cps.toList.map fun c => .str ⟨#[c]⟩)
  | _ => none
def aItems (g : aE) : aI := fun ρ => (g ρ).bind fun o ρ' => match itemsD o with
  | some ds => .ok ds ρ'
  | none => .stuck
def iAny (K : PySem.W.Frag) (tl : TE) : TI := fun σ H R => tl σ H fun x H1 => (∃ a, x = .ref a ∧ (∃ xs, SqL K H1 a xs) ∧ R (Itl K a) H1) ∨ (∃ a, x = .ref a ∧ (∃ xs, SqT K H1 a xs) ∧ R (Itt K a) H1) ∨ (∃ z, x = .str z ∧ R (Its z) H1)
theorem pi_any {X : Cx} {tg l : Expr} {tl : TE} (hl : PE X l tl) : PI X tg l (iAny X.K tl) := by
  refine ⟨fun pins s σ H R I h => ?_⟩
  refine thn (hl.run pins s σ H _ I h) fun v s1 ⟨x, H1, I1, r1, q1⟩ => ?_
  rcases q1 with ⟨a, e, ⟨xs, hq⟩, q⟩ | ⟨a, e, ⟨xs, hq⟩, q⟩ | ⟨x, e, q⟩
  · subst e
    cases r1
    obtain ⟨its, rv, p, hz⟩ := I1.list hq
    refine wpAny_pyIter_list p.isList ?_
    refine ⟨s1.heap.objs.size, [s1.heap.objs.size], _, _, H1, rfl, I1.kept (t' := s1.toks) fun b o e => Heap.get?_push_of_some _ e, turn_list a _, ⟨_, Heap.get?_push_size _ rfl, rfl, rfl⟩, fun b hb => ?_, q⟩
    have e : b = s1.heap.objs.size := by simpa using hb
    subst e
    exact I1.fpOk (Nat.le_refl _) (I1.hok.fresh (Nat.le_refl _))
  · subst e
    cases r1
    obtain ⟨its, rv, p, hz⟩ := I1.tuple hq
    refine wpAny_pyIter_tuple (show s1.heap.IsTuple a its.toArray from p) ?_
    refine ⟨s1.heap.objs.size, [s1.heap.objs.size], _, _, H1, rfl, I1.kept (t' := s1.toks) fun b o e => Heap.get?_push_of_some _ e, turn_tuple a _, ⟨_, Heap.get?_push_size _ rfl, rfl, rfl⟩, fun b hb => ?_, q⟩
    have e : b = s1.heap.objs.size := by simpa using hb
    subst e
    exact I1.fpOk (Nat.le_refl _) (I1.hok.fresh (Nat.le_refl _))
  · subst e
    obtain ⟨t, rfl⟩ := r1
    cases ha : x.cps.all (· < 128)
    · exact wpAny_pyIter_wide ha (pi_one (tk := s1.toks) I1 _ (turn_str _ x t "str_iterator" (.inr rfl)) ⟨_, Heap.get?_push_size _ rfl, rfl, rfl⟩ q)
    · exact wpAny_pyIter_ascii ha (pi_one (tk := s1.toks) I1 _ (turn_str _ x t "str_ascii_iterator" (.inl rfl)) ⟨_, Heap.get?_push_size _ rfl, rfl, rfl⟩ q)
section
variable {Γ : Gb} {P : Nat → Bool} {W : WX}
theorem RepL.at {S : Hp} {xs : List V} {ds : List D} {i : Nat} {d : D} {x : V} (r : RepL Γ S xs ds) (e : ds[i]? = some d) (h : xs[i]? = some x) : Rep Γ S x d := by
  obtain ⟨v, a, b⟩ := r.get e
  rw [h] at a
  cases a
  exact b
theorem lt_of_get {α : Type} {xs : List α} {i : Nat} {x : α} (h : xs[i]? = some x) : i < xs.length := (List.getElem?_eq_some_iff.mp h).1
theorem get_of_lt {α : Type} {xs : List α} {i : Nat} (h : i < xs.length) : ∃ x, xs[i]? = some x := ⟨_, List.getElem?_eq_getElem h⟩
/-- a list that is held, by its items -/
theorem iter_L {a : Addr} {d0 : D} {ds : List D} (hd : d0 = .lst ds ∨ d0 = .wls ds) : IterOk Γ (Itl Γ.K a) ds [(.ref a, .sh d0)] := by
  have key : ∀ c R H, RS Γ c ([(V.ref a, O.sh d0)] ++ R) H → ∃ xs, SqL Γ.K H a xs ∧ Had Γ c ((V.ref a, O.sh d0) :: R) H xs ds := by
    intro c R H h
    rcases hd with rfl | rfl
    · obtain ⟨a', xs, e, p, q⟩ := RS.lst (v := .ref a) (o := .sh (.lst ds)) h (by simp) rfl
      cases e
      exact ⟨xs, .of p, q⟩
    · obtain ⟨a', xs, e, p, q⟩ := RS.wls (v := .ref a) (ds := ds) h (by simp)
      cases e
      exact ⟨xs, p, q⟩
  refine ⟨fun c R i H h hi => ?_, fun c R H h => ?_, fun c R i d x H H' h e y => ?_⟩
  · obtain ⟨xs, p, q⟩ := key c R H h
    obtain ⟨x, hx⟩ := get_of_lt (xs := xs) (i := i) (by rw [q.len]; exact hi)
    exact ⟨xs, x, p, hx⟩
  · obtain ⟨xs, p, q⟩ := key c R H h
    exact ⟨xs, p, by rw [q.len]; exact Nat.le_refl _⟩
  · obtain ⟨xs, p, q⟩ := key c R H h
    obtain ⟨rfl, y⟩ := y
    obtain ⟨w, hw, z⟩ := q.get e
    have := y xs p
    rw [hw] at this
    cases this
    exact z
theorem iter_T {a : Addr} {ds : List D} : IterOk Γ (Itt Γ.K a) ds [(.ref a, .sh (.tup ds))] := by
  have key : ∀ c R H, RS Γ c ([(V.ref a, O.sh (.tup ds))] ++ R) H → ∃ xs, SqT Γ.K H a xs ∧ Had Γ c ((V.ref a, O.sh (.tup ds)) :: R) H xs ds := by
    intro c R H h
    obtain ⟨a', xs, e, p, q⟩ := RS.tup (v := .ref a) (o := .sh (.tup ds)) h (by simp) rfl
    cases e
    exact ⟨xs, p, q⟩
  refine ⟨fun c R i H h hi => ?_, fun c R H h => ?_, fun c R i d x H H' h e y => ?_⟩
  · obtain ⟨xs, p, q⟩ := key c R H h
    obtain ⟨x, hx⟩ := get_of_lt (xs := xs) (i := i) (by rw [q.len]; exact hi)
    exact ⟨xs, x, p, hx⟩
  · obtain ⟨xs, p, q⟩ := key c R H h
    exact ⟨xs, p, by rw [q.len]; exact Nat.le_refl _⟩
  · obtain ⟨xs, p, q⟩ := key c R H h
    obtain ⟨rfl, y⟩ := y
    obtain ⟨w, hw, z⟩ := q.get e
    have := y xs p
    rw [hw] at this
    cases this
    exact z
theorem iter_S {z : Str} : IterOk Γ (Its z) (z.cps.toList.map fun c => .str ⟨#[c]⟩) [] := by
  refine ⟨fun c R i H h hi => ?_, fun c R H h => ?_, fun c R i d x H H' h e y => ?_⟩
  · show i < z.cps.size
    simpa using hi
  · show z.cps.size ≤ _
    simp
  · obtain ⟨rfl, c', hc, rfl⟩ := y
    rw [List.getElem?_map, Array.getElem?_toList, hc] at e
    cases e
    exact h.pure fun _ => .str _
theorem sxi_any {te : TE} {g : aE} (h1 : Sx Γ P W te g) : Sxi Γ P W (iAny Γ.K te) (aItems g) := fun f σ ρ T H R s k => by
  refine h1 f σ ρ T H _ s ((Good.bind k).imp fun o ρ' k v H' s' => ?_)
  split at k
  · rename_i ds eds
    unfold itemsD at eds
    split at eds
    · cases eds
      obtain ⟨a, xs, rfl, p, q⟩ := RS.lst (v := v) (o := .sh (.lst ds)) s'.rs (by simp) rfl
      exact .inl ⟨a, rfl, ⟨xs, .of p⟩, k _ [(.ref a, .sh (.lst ds))] H' (iter_L (.inl rfl)) s'⟩
    · cases eds
      obtain ⟨a, xs, rfl, p, q⟩ := RS.wls (v := v) (ds := ds) s'.rs (by simp)
      exact .inl ⟨a, rfl, ⟨xs, p⟩, k _ [(.ref a, .sh (.wls ds))] H' (iter_L (.inr rfl)) s'⟩
    · cases eds
      obtain ⟨a, xs, rfl, p, q⟩ := RS.tup (v := v) (o := .sh (.tup ds)) s'.rs (by simp) rfl
      exact .inr (.inl ⟨a, rfl, ⟨xs, p⟩, k _ [(.ref a, .sh (.tup ds))] H' iter_T s'⟩)
    · cases eds
      rename_i z
      obtain rfl : v = .str z := s'.rs.str (by simp)
      exact .inr (.inr ⟨z, rfl, k _ [] H' iter_S s'.drop⟩)
    · cases eds
  · exact k.elim
/-! ranges -/
def rngD (lo : Int) (n : Nat) : List D := (List.range n).map fun i : Nat => .int (lo + i)
def aRng1 (g : aE) : aI := fun ρ => (g ρ).bind fun o ρ' => match o with
  | .sh (.int j) => if -1000000000 ≤ j ∧ j ≤ 1000000000 then .ok (rngD 0 j.toNat) ρ' else .stuck
  | _ => .stuck
def aRng2 (od oe : Od) : aI := fun ρ => (evA [od, oe] ρ).bind fun rs ρ' => match rsv ρ' rs with
  | some [.sh (.int i), .sh (.int j)] => if (-1000000000 ≤ i ∧ i ≤ 1000000000) ∧ -1000000000 ≤ j ∧ j ≤ 1000000000 then .ok (rngD i (j - i).toNat) ρ' else .stuck
  | _ => .stuck
/-- downward by ones -/
def dwnD (hi : Int) (n : Nat) : List D := (List.range n).map fun i : Nat => .int (hi + (i : Int) * (-1))
def aRngD (od oe : Od) : aI := fun ρ => (evA [od, oe] ρ).bind fun rs ρ' => match rsv ρ' rs with
  | some [.sh (.int i), .sh (.int j)] => if (-1000000000 ≤ i ∧ i ≤ 1000000000) ∧ -1000000000 ≤ j ∧ j ≤ 1000000000 then .ok (dwnD i (i - j).toNat) ρ' else .stuck
  | _ => .stuck
theorem iter_R {lo : Int} {n : Nat} : IterOk Γ (Itr lo n) (rngD lo n) [] := by
  refine ⟨fun c R i H h hi => ?_, fun c R H h => ?_, fun c R i d x H H' h e y => ?_⟩
  · show i < n
    simpa [rngD] using hi
  · show n ≤ _
    simp [rngD]
  · obtain ⟨rfl, rfl⟩ := y
    unfold rngD at e
    rw [List.getElem?_map] at e
    obtain ⟨j, hj, rfl⟩ := Option.map_eq_some_iff.mp e
    obtain ⟨hl, hj⟩ := List.getElem?_eq_some_iff.mp hj
    rw [List.getElem_range] at hj
    subst hj
    exact h.pure fun _ => .int _
theorem iter_C {hi : Int} {n : Nat} : IterOk Γ (Itc hi (-1) n) (dwnD hi n) [] := by
  refine ⟨fun c R i H h hlt => ?_, fun c R H h => ?_, fun c R i d x H H' h e y => ?_⟩
  · show i < n
    simpa [dwnD] using hlt
  · show n ≤ _
    simp [dwnD]
  · obtain ⟨rfl, rfl⟩ := y
    unfold dwnD at e
    rw [List.getElem?_map] at e
    obtain ⟨j, hj, rfl⟩ := Option.map_eq_some_iff.mp e
    obtain ⟨hl, hj⟩ := List.getElem?_eq_some_iff.mp hj
    rw [List.getElem_range] at hj
    subst hj
    exact h.pure fun _ => .int _
theorem sxi_rng1 {te : TE} {g : aE} (h1 : Sx Γ P W te g) : Sxi Γ P W (iRng1 (tCons te tNil)) (aRng1 g) := fun f σ ρ T H R s k => by
  refine h1 f σ ρ T H _ s ((Good.bind k).imp fun o ρ' k v H' s' => ?_)
  split at k
  · rename_i j
    split at k
    · rename_i hj
      obtain rfl : v = .int j := s'.rs.int (by simp)
      exact ⟨j, rfl, by omega, by omega, k _ [] H' iter_R s'.drop⟩
    · exact k.elim
  · exact k.elim
theorem two_ints {f : Fr} {σ : L2.St} {ρ : Store} {T T' : List (V × O)} {H : Hp} {vs : List V} {rs : List Rv} {i j : Int} (m : Mt σ T' vs rs) (s : SR Γ P f σ ρ (T' ++ T) H) (e : rsv ρ rs = some [.sh (.int i), .sh (.int j)]) : vs = [.int i, .int j] := by
  obtain ⟨ps, p1, p2, mem⟩ := rsv_ok m s e
  match ps, p2 with
  | [(x, o), (y, u)], p2 =>
    simp only [List.map_cons, List.map_nil, List.cons.injEq, and_true] at p2
    obtain ⟨rfl, rfl⟩ := p2
    have e1 := s.rs.int (v := x) (i := i) (mem _ (by simp))
    have e2 := s.rs.int (v := y) (i := j) (mem _ (by simp))
    rw [← p1, e1, e2]
    rfl
theorem sxi_rng2 {ta tb : TE} {od oe : Od} (ha : Sa Γ P W (tCons ta (tCons tb tNil)) [od, oe]) : Sxi Γ P W (iRng2 (tCons ta (tCons tb tNil))) (aRng2 od oe) := fun f σ ρ T H R s k => by
  refine ha f σ ρ T H _ s ((Good.bind k).imp fun rs ρ' k vs T' H' m s' => ?_)
  split at k
  · rename_i i j e
    split at k
    · rename_i hj
      rw [two_ints m s' e]
      exact ⟨i, j, rfl, ⟨by omega, by omega, by omega, by omega⟩, k _ [] H' iter_R s'.dropL⟩
    · exact k.elim
  · exact k.elim
/-- range(a, b, -1) -/
theorem sxi_rngD {ta tb : TE} {od oe : Od} (ha : Sa Γ P W (tCons ta (tCons tb tNil)) [od, oe]) : Sxi Γ P W (iRng3 (tCons ta (tCons tb (tCons (tUn (rU fun i => .int (-i)) (tC (.int 1))) tNil)))) (aRngD od oe) := fun f σ ρ T H R s k => by
  refine ha f σ ρ T H (fun vs H' => match vs with
    | [x, y] => ∃ z : Int, V.int 1 = V.int z ∧ ∃ (i j c : Int) (n : Nat), [x, y, V.int (-z)] = [V.int i, .int j, .int c] ∧ RgC i j c n ∧ R (Itc i c n) H'
    | _ => True) s ((Good.bind k).imp fun rs ρ' k vs T' H' m s' => ?_)
  split at k
  · rename_i i j e
    split at k
    · rename_i hj
      rw [two_ints m s' e]
      exact ⟨1, rfl, i, j, -1, _, rfl, RgC.neg (by omega) (by omega) (by omega) (by omega), k _ [] H' iter_C s'.dropL⟩
    · exact k.elim
  · exact k.elim
/-! two lists, two tuples, side by side -/
def zipD (xs ys : List D) : List D := (xs.zip ys).map fun p => .tup [p.1, p.2]
def aZip (g1 g2 : aE) : aI := fun ρ => (g1 ρ).bind fun o1 ρ1 => (g2 ρ1).bind fun o2 ρ2 => match o1, o2 with
  | .sh (.lst xs), .sh (.lst ys) => .ok (zipD xs ys) ρ2
  | .sh (.tup xs), .sh (.tup ys) => .ok (zipD xs ys) ρ2
  | _, _ => .stuck
theorem zipD_get {xs ys : List D} {i : Nat} {d : D} (e : (zipD xs ys)[i]? = some d) : ∃ a b, xs[i]? = some a ∧ ys[i]? = some b ∧ d = .tup [a, b] := by
  unfold zipD at e
  rw [List.getElem?_map] at e
  obtain ⟨⟨a, b⟩, hj, rfl⟩ := Option.map_eq_some_iff.mp e
  rw [List.getElem?_zip_eq_some] at hj
  exact ⟨a, b, hj.1, hj.2, rfl⟩
theorem RS.pair {c : Ent} {R : List (V × O)} {H : Hp} {x y : V} {a b : D} (h : RS Γ c ((x, .sh a) :: (y, .sh b) :: R) H) {T : Addr} (hT : H T = none) : RS Γ c ((.ref T, .sh (.tup [a, b])) :: R) (upd H T (.tup [x, y])) := by
  exact RS.newT (xs := [x, y]) (ds := [a, b]) (R := R) h rfl hT
theorem iter_ZL {a b : Addr} {xs ys : List D} : IterOk Γ (Itz Γ.K a b) (zipD xs ys) [(.ref b, .sh (.lst ys)), (.ref a, .sh (.lst xs))] := by
  have key : ∀ c R H, RS Γ c ([(V.ref b, O.sh (.lst ys)), (V.ref a, O.sh (.lst xs))] ++ R) H → (∃ us, SqL Γ.K H a us ∧ Had Γ c ([(V.ref b, O.sh (.lst ys)), (V.ref a, O.sh (.lst xs))] ++ R) H us xs) ∧ ∃ us, SqL Γ.K H b us ∧ Had Γ c ([(V.ref b, O.sh (.lst ys)), (V.ref a, O.sh (.lst xs))] ++ R) H us ys := by
    intro c R H h
    obtain ⟨a', us, e, p, q⟩ := RS.lst (v := .ref a) (o := .sh (.lst xs)) h (by simp) rfl
    obtain ⟨b', vs, e', p', q'⟩ := RS.lst (v := .ref b) (o := .sh (.lst ys)) h (by simp) rfl
    cases e
    cases e'
    exact ⟨⟨us, .of p, q⟩, vs, .of p', q'⟩
  refine ⟨fun c R i H h hi => ?_, fun c R H h => ?_, fun c R i d x H H' h e y => ?_⟩
  · obtain ⟨⟨us, p, q⟩, vs, p', q'⟩ := key c R H h
    have hl : i < min xs.length ys.length := by simpa [zipD] using hi
    obtain ⟨x, hx⟩ := get_of_lt (xs := us) (i := i) (by rw [q.len]; omega)
    obtain ⟨y, hy⟩ := get_of_lt (xs := vs) (i := i) (by rw [q'.len]; omega)
    exact ⟨us, vs, x, y, p, p', hx, hy⟩
  · obtain ⟨⟨us, p, q⟩, vs, p', q'⟩ := key c R H h
    refine ⟨us, vs, p, p', ?_⟩
    rw [q.len, q'.len]
    simp only [zipD, List.length_map, List.length_zip]
    omega
  · obtain ⟨⟨us, p, q⟩, vs, p', q'⟩ := key c R H h
    obtain ⟨T, x1, y1, rfl, hT, rfl, h1, h2⟩ := y
    obtain ⟨da, db, ea, eb, rfl⟩ := zipD_get e
    obtain ⟨S, sb, r, ad, _⟩ := q.ex
    obtain ⟨S', sb', r', ad', _⟩ := q'.ex
    have z1 := ad _ _ (r.at ea (h1 us p))
    have z2 : RS Γ c ((y1, .sh db) :: (x1, .sh da) :: ([(V.ref b, O.sh (.lst ys)), (V.ref a, O.sh (.lst xs))] ++ R)) H := by
      obtain ⟨b2, vs2, e2, p2, q2⟩ := RS.lst (v := .ref b) (o := .sh (.lst ys)) z1 (by simp) rfl
      cases e2
      obtain ⟨w, hw, z⟩ := q2.get eb
      have := h2 vs2 (.of p2)
      rw [hw] at this
      cases this
      exact z
    exact RS.pair (z2.perm (List.Perm.swap _ _ _)) hT
theorem iter_ZT {a b : Addr} {xs ys : List D} : IterOk Γ (ItzT Γ.K a b) (zipD xs ys) [(.ref b, .sh (.tup ys)), (.ref a, .sh (.tup xs))] := by
  have key : ∀ c R H, RS Γ c ([(V.ref b, O.sh (.tup ys)), (V.ref a, O.sh (.tup xs))] ++ R) H → (∃ us, SqT Γ.K H a us ∧ Had Γ c ([(V.ref b, O.sh (.tup ys)), (V.ref a, O.sh (.tup xs))] ++ R) H us xs) ∧ ∃ us, SqT Γ.K H b us ∧ Had Γ c ([(V.ref b, O.sh (.tup ys)), (V.ref a, O.sh (.tup xs))] ++ R) H us ys := by
    intro c R H h
    obtain ⟨a', us, e, p, q⟩ := RS.tup (v := .ref a) (o := .sh (.tup xs)) h (by simp) rfl
    obtain ⟨b', vs, e', p', q'⟩ := RS.tup (v := .ref b) (o := .sh (.tup ys)) h (by simp) rfl
    cases e
    cases e'
    exact ⟨⟨us, p, q⟩, vs, p', q'⟩
  refine ⟨fun c R i H h hi => ?_, fun c R H h => ?_, fun c R i d x H H' h e y => ?_⟩
  · obtain ⟨⟨us, p, q⟩, vs, p', q'⟩ := key c R H h
    have hl : i < min xs.length ys.length := by simpa [zipD] using hi
    obtain ⟨x, hx⟩ := get_of_lt (xs := us) (i := i) (by rw [q.len]; omega)
    obtain ⟨y, hy⟩ := get_of_lt (xs := vs) (i := i) (by rw [q'.len]; omega)
    exact ⟨us, vs, x, y, p, p', hx, hy⟩
  · obtain ⟨⟨us, p, q⟩, vs, p', q'⟩ := key c R H h
    refine ⟨us, vs, p, p', ?_⟩
    rw [q.len, q'.len]
    simp only [zipD, List.length_map, List.length_zip]
    omega
  · obtain ⟨⟨us, p, q⟩, vs, p', q'⟩ := key c R H h
    obtain ⟨T, x1, y1, rfl, hT, rfl, h1, h2⟩ := y
    obtain ⟨da, db, ea, eb, rfl⟩ := zipD_get e
    obtain ⟨S, sb, r, ad, _⟩ := q.ex
    have z1 := ad _ _ (r.at ea (h1 us p))
    have z2 : RS Γ c ((y1, .sh db) :: (x1, .sh da) :: ([(V.ref b, O.sh (.tup ys)), (V.ref a, O.sh (.tup xs))] ++ R)) H := by
      obtain ⟨b2, vs2, e2, p2, q2⟩ := RS.tup (v := .ref b) (o := .sh (.tup ys)) z1 (by simp) rfl
      cases e2
      obtain ⟨w, hw, z⟩ := q2.get eb
      have := h2 vs2 p2
      rw [hw] at this
      cases this
      exact z
    exact RS.pair (z2.perm (List.Perm.swap _ _ _)) hT
theorem sxi_zip {ta tb : TE} {g1 g2 : aE} (h1 : Sx Γ P W ta g1) (h2 : Sx Γ P W tb g2) : Sxi Γ P W (iZipA Γ.K (tCons ta (tCons tb tNil))) (aZip g1 g2) := fun f σ ρ T H R s k => by
  refine h1 f σ ρ T H _ s ((Good.bind k).imp fun o1 ρ1 k v1 H1 s1 => ?_)
  refine h2 f σ ρ1 ((v1, o1) :: T) H1 _ s1 ((Good.bind k).more (T' := [(v1, o1)]) |>.imp fun o2 ρ2 k v2 H2 s2 => ?_)
  show ∃ a b xs ys, [v1, v2] = [V.ref a, .ref b] ∧ _
  split at k
  · rename_i xs ys _
    obtain ⟨a, us, rfl, p, q⟩ := RS.lst (v := v1) (o := .sh (.lst xs)) s2.rs (by simp) rfl
    obtain ⟨b, vs, rfl, p', q'⟩ := RS.lst (v := v2) (o := .sh (.lst ys)) s2.rs (by simp) rfl
    exact ⟨a, b, us, vs, rfl, .inl ⟨.of p, .of p', k _ _ H2 iter_ZL s2⟩⟩
  · rename_i xs ys _
    obtain ⟨a, us, rfl, p, q⟩ := RS.tup (v := v1) (o := .sh (.tup xs)) s2.rs (by simp) rfl
    obtain ⟨b, vs, rfl, p', q'⟩ := RS.tup (v := v2) (o := .sh (.tup ys)) s2.rs (by simp) rfl
    exact ⟨a, b, us, vs, rfl, .inr ⟨p, p', k _ _ H2 iter_ZT s2⟩⟩
  · exact k.elim
/-! a list with its places -/
def enumD (xs : List D) : List D := xs.mapIdx fun i d => .tup [.int (i : Nat), d]
def aEnum (g : aE) : aI := fun ρ => (g ρ).bind fun o ρ' => match o with
  | .sh (.lst xs) => .ok (enumD xs) ρ'
  | _ => .stuck
theorem iter_E {a : Addr} {xs : List D} : IterOk Γ (Ite Γ.K a) (enumD xs) [(.ref a, .sh (.lst xs))] := by
  have key : ∀ c R H, RS Γ c ([(V.ref a, O.sh (.lst xs))] ++ R) H → ∃ us, SqL Γ.K H a us ∧ Had Γ c ([(V.ref a, O.sh (.lst xs))] ++ R) H us xs := by
    intro c R H h
    obtain ⟨a', us, e, p, q⟩ := RS.lst (v := .ref a) (o := .sh (.lst xs)) h (by simp) rfl
    cases e
    exact ⟨us, .of p, q⟩
  refine ⟨fun c R i H h hi => ?_, fun c R H h => ?_, fun c R i d x H H' h e y => ?_⟩
  · obtain ⟨us, p, q⟩ := key c R H h
    have hl : i < xs.length := by simpa [enumD] using hi
    obtain ⟨x, hx⟩ := get_of_lt (xs := us) (i := i) (by rw [q.len]; omega)
    exact ⟨us, x, p, hx⟩
  · obtain ⟨us, p, q⟩ := key c R H h
    refine ⟨us, p, ?_⟩
    rw [q.len]
    simp [enumD]
  · obtain ⟨us, p, q⟩ := key c R H h
    obtain ⟨T, x1, rfl, hT, rfl, h1⟩ := y
    unfold enumD at e
    rw [List.getElem?_mapIdx] at e
    obtain ⟨da, ea, rfl⟩ := Option.map_eq_some_iff.mp e
    obtain ⟨S, sb, r, ad, _⟩ := q.ex
    have z1 := ad _ _ (r.at ea (h1 us p))
    exact RS.pair (z1.pure (v := .int (i : Nat)) (d := .int (i : Nat)) fun _ => .int _) hT
theorem sxi_enum {ta : TE} {g : aE} (h1 : Sx Γ P W ta g) : Sxi Γ P W (iEnum Γ.K (tCons ta tNil)) (aEnum g) := fun f σ ρ T H R s k => by
  refine h1 f σ ρ T H _ s ((Good.bind k).imp fun o1 ρ1 k v1 H1 s1 => ?_)
  show ∃ a xs, [v1] = [V.ref a] ∧ _
  split at k
  · rename_i xs
    obtain ⟨a, us, rfl, p, q⟩ := RS.lst (v := v1) (o := .sh (.lst xs)) s1.rs (by simp) rfl
    exact ⟨a, us, rfl, .of p, k _ _ H1 iter_E s1⟩
  · exact k.elim
end
/-! ### as they stand in a text -/
section
variable {X : Cx} {Γ : Gb} {P : Nat → Bool} {W : WX} {te ta tb : TE} {g g1 g2 : aE} {od oa ob : Od} {tg e a b : Expr} {p pos : Pos}
theorem ai_any (hK : X.K = Γ.K) (h : AE X Γ P W e te g) : AI X Γ P W tg e (iAny Γ.K te) (aItems g) := ⟨hK ▸ pi_any h.pe, sxi_any h.sx⟩
theorem ai_rng1 (hm : X.mg "range" = none) (h : AE X Γ P W a ta g) (hg : Gl X "range" := by rfl) (hs1 : starEach (a :: []) X.env = (false, eval a X.env) :: starEach [] X.env := by rfl) (hs : starEach [a] X.env = [(false, eval a X.env)] := by rfl) :
    AI X Γ P W tg (.Call (.Name "range" p) [a] [] pos) (iRng1 (tCons ta tNil)) (aRng1 g) := ⟨pi_range1 hg hm (pa_cons h.pe pa_nil hs1) hs, sxi_rng1 h.sx⟩
theorem ai_rng2 (hm : X.mg "range" = none) (ha : AO X Γ P W a ta oa) (hb : AO X Γ P W b tb ob) (hg : Gl X "range" := by rfl) (hs1 : starEach (a :: [b]) X.env = (false, eval a X.env) :: starEach [b] X.env := by rfl) (hs2 : starEach (b :: []) X.env = (false, eval b X.env) :: starEach [] X.env := by rfl)
    (hs : starEach [a, b] X.env = [(false, eval a X.env), (false, eval b X.env)] := by rfl) (hs3 : starEach [b] X.env = [(false, eval b X.env)] := by rfl) :
    AI X Γ P W tg (.Call (.Name "range" p) [a, b] [] pos) (iRng2 (tCons ta (tCons tb tNil))) (aRng2 oa ob) := ⟨pi_range2 hg hm (pa_cons ha.pe (pa_cons hb.pe pa_nil hs2) hs1) hs hs3, sxi_rng2 (ha.sa (hb.sa sa_nil))⟩
theorem ai_rngD {j : Nat} {q1 q2 : Pos} (hm : X.mg "range" = none) (ha : AO X Γ P W a ta oa) (hb : AO X Γ P W b tb ob) (hg : Gl X "range" := by rfl)
    (hs1 : starEach (a :: [b, .UnaryOp .USub (.Constant (.int 1) j q1) q2]) X.env = (false, eval a X.env) :: starEach [b, .UnaryOp .USub (.Constant (.int 1) j q1) q2] X.env := by rfl)
    (hs2 : starEach (b :: [.UnaryOp .USub (.Constant (.int 1) j q1) q2]) X.env = (false, eval b X.env) :: starEach [.UnaryOp .USub (.Constant (.int 1) j q1) q2] X.env := by rfl)
    (hpl : (backTo pos (starEach [b, .UnaryOp .USub (.Constant (.int 1) j q1) q2] X.env)).any (·.1) = false := by rfl) :
    AI X Γ P W tg (.Call (.Name "range" p) [a, b, .UnaryOp .USub (.Constant (.int 1) j q1) q2] [] pos) (iRng3 (tCons ta (tCons tb (tCons (tUn (rU fun i => .int (-i)) (tC (.int 1))) tNil)))) (aRngD oa ob) :=
  ⟨pi_range3 hg hm (pa_cons ha.pe (pa_cons hb.pe (pa_cons (pe_un un_neg pe_int) pa_nil rfl) hs2) hs1) hs1 hpl, sxi_rngD (ha.sa (hb.sa sa_nil))⟩
theorem ai_zip {elts : List Expr} {kk : Nat} {tpos : Pos} (hK : X.K = Γ.K) (hm : X.mg "zip" = none) (ha : AE X Γ P W a ta g1) (hb : AE X Γ P W b tb g2) (hg : Gl X "zip" := by rfl)
    (hs1 : starEach (a :: [b]) X.env = (false, eval a X.env) :: starEach [b] X.env := by rfl) (hs2 : starEach (b :: []) X.env = (false, eval b X.env) :: starEach [] X.env := by rfl) (hpl : (backTo pos (starEach [b] X.env)).any (·.1) = false := by rfl) :
    AI X Γ P W (.Tuple elts kk tpos) (.Call (.Name "zip" p) [a, b] [] pos) (iZipA Γ.K (tCons ta (tCons tb tNil))) (aZip g1 g2) := ⟨hK ▸ pi_zipA hg hm (pa_cons ha.pe (pa_cons hb.pe pa_nil hs2) hs1) hs1 hpl, sxi_zip ha.sx hb.sx⟩
theorem ai_enum {elts : List Expr} {kk : Nat} {tpos : Pos} (hK : X.K = Γ.K) (hm : X.mg "enumerate" = none) (ha : AE X Γ P W a ta g) (hg : Gl X "enumerate" := by rfl) (hs1 : starEach (a :: []) X.env = (false, eval a X.env) :: starEach [] X.env := by rfl)
    (hs : starEach [a] X.env = [(false, eval a X.env)] := by rfl) : AI X Γ P W (.Tuple elts kk tpos) (.Call (.Name "enumerate" p) [a] [] pos) (iEnum Γ.K (tCons ta tNil)) (aEnum g) := ⟨hK ▸ pi_enum hg hm (pa_cons ha.pe pa_nil hs1) hs, sxi_enum ha.sx⟩
end
end Den
end
section
/-! Den, part J: calls of defs, comprehensions. -/
namespace Den
open PySem L2 PySem.Spec PyProof.Rows
/-! ### a def's promise -/
inductive FRes where
  | ret (o : O) (os : List O) | exc (x : Xn) (os : List O) | stuck
def XC (Γ : Gb) (e : Ent) (R : List (V × O)) (x : Xn) (cls : Value) (d : Option Addr) (H : Hp) : Prop :=
  cls = x.cls.val Γ ∧ match x.fs with
    | none => d = none ∧ RS Γ e R H
    | some fs => ∃ dd, d = some dd ∧ RS Γ e ((.ref dd, .sh (.xd fs)) :: R) H
abbrev aF := List O → FRes
/-- what a def is worth: from the arguments' things, den's outcome -/
def spD (Γ : Gb) (n : Nat) (den : aF) : Sp := fun vs H Q E => vs.length = n ∧ ∃ (e : Ent) (os : List O), os.length = n ∧ RS Γ e (vs.zip os) H ∧ match den os with
  | .ret o os' => os'.length = n ∧ ∀ v H', RS Γ e ((v, o) :: vs.zip os') H' → Q v H'
  | .exc x os' => os'.length = n ∧ ∀ cls d H', XC Γ e (vs.zip os') x cls d H' → E cls d H'
  | .stuck => False
/-- the arguments' things are taken: owned ones out of their names -/
def tak (ρ : Store) : List Rv → Option (List O × Store)
  | [] => some ([], ρ)
  | .o o :: r => (tak ρ r).map fun p => (o :: p.1, p.2)
  | .p i :: r => match ρ[i]? with
    | some (some (.sh d)) => (tak ρ r).map fun p => (.sh d :: p.1, p.2)
    | some (some o) => (tak (ρ.set i none) r).map fun p => (o :: p.1, p.2)
    | _ => none
/-- and given back -/
def giv (ρ : Store) : List Rv → List O → Store
  | .p i :: r, o :: os => match ρ[i]? with
    | some none => giv (ρ.set i (some o)) r os
    | _ => giv ρ r os
  | .o _ :: r, _ :: os => giv ρ r os
  | _, _ => ρ
def aCall (n : Nat) (ods : List Od) (dds : List D) (den : aF) : aE := fun ρ => (evA ods ρ).bind fun rs ρ1 => match tak ρ1 rs with
  | some (os, ρ2) => if os.length + dds.length = n then match den (os ++ dds.map O.sh) with
      | .ret o os' => if os'.length = n then .ok o (giv ρ2 rs os') else .stuck
      | .exc x os' => if os'.length = n then .exc x (giv ρ2 rs os') else .stuck
      | .stuck => .stuck
    else .stuck
  | none => .stuck
section
variable {Γ : Gb} {P : Nat → Bool} {W : WX} {f : Fr} {σ : L2.St} {H : Hp}
theorem tak_ok {T' : List (V × O)} {vs : List V} {rs : List Rv} (m : Mt σ T' vs rs) : ∀ {ρ ρ2 : Store} {T : List (V × O)} {os : List O}, SR Γ P f σ ρ (T' ++ T) H → tak ρ rs = some (os, ρ2) → SR Γ P f σ ρ2 (vs.zip os ++ T) H ∧ os.length = vs.length := by
  induction m with
  | nil =>
    intro ρ ρ2 T os s e
    cases e
    exact ⟨s, rfl⟩
  | @ex v o T1 vs rs m ih =>
    intro ρ ρ2 T os s e
    simp only [tak, Option.map_eq_some_iff] at e
    obtain ⟨⟨os', ρ'⟩, e, q⟩ := e
    cases q
    rw [List.append_assoc] at s
    obtain ⟨a, b⟩ := ih s e
    exact ⟨a.permT List.perm_middle, by simp [b]⟩
  | @pl v i T1 vs rs hv m ih =>
    intro ρ ρ2 T os s e
    unfold tak at e
    split at e
    · rename_i d ed
      simp only [Option.map_eq_some_iff] at e
      obtain ⟨⟨os', ρ'⟩, e, q⟩ := e
      cases q
      obtain ⟨w, hw, s'⟩ := s.dupSlot ed
      rw [hv] at hw
      cases hw
      obtain ⟨a, b⟩ := ih (T := (v, .sh d) :: T) (s'.permT List.perm_middle.symm) e
      exact ⟨a.permT List.perm_middle, by simp [b]⟩
    · rename_i o _ eo
      simp only [Option.map_eq_some_iff] at e
      obtain ⟨⟨os', ρ'⟩, e, q⟩ := e
      cases q
      obtain ⟨w, hw, s'⟩ := s.take eo
      rw [hv] at hw
      cases hw
      obtain ⟨a, b⟩ := ih (T := (v, o) :: T) (s'.permT List.perm_middle.symm) e
      exact ⟨a.permT List.perm_middle, by simp [b]⟩
    · cases e
theorem giv_ok {T' : List (V × O)} {vs : List V} {rs : List Rv} (m : Mt σ T' vs rs) : ∀ {ρ : Store} {T : List (V × O)} {os : List O}, SR Γ P f σ ρ (vs.zip os ++ T) H → os.length = vs.length → SR Γ P f σ (giv ρ rs os) T H := by
  induction m with
  | nil =>
    intro ρ T os s e
    exact s
  | @ex v o T1 vs rs m ih =>
    intro ρ T os s e
    cases os with
    | nil => cases e
    | cons o' os => exact ih (SR.drop (v := v) (o := o') s) (by simpa using e)
  | @pl v i T1 vs rs hv m ih =>
    intro ρ T os s e
    cases os with
    | nil => cases e
    | cons o' os =>
      unfold giv
      split
      · exact ih (SR.back (v := v) (o := o') s hv) (by simpa using e)
      · exact ih (SR.drop (v := v) (o := o') s) (by simpa using e)
theorem zip_app {α β : Type} : ∀ {as : List α} {bs : List β} {cs : List α} {ds : List β}, as.length = bs.length → (as ++ cs).zip (bs ++ ds) = as.zip bs ++ cs.zip ds
  | [], [], _, _, _ => rfl
  | a :: as, b :: bs, _, _, e => by
    rw [List.cons_append, List.cons_append, List.zip_cons_cons, List.zip_cons_cons, zip_app (by simpa using e), List.cons_append]
theorem zip_take {α β : Type} : ∀ {as : List α} {cs : List α} {bs : List β}, bs.length = as.length + cs.length → ∃ X, ((as ++ cs).zip bs).Perm (as.zip bs ++ X)
  | [], cs, bs, _ => ⟨cs.zip bs, by simp⟩
  | a :: as, cs, b :: bs, e => by
    obtain ⟨X, q⟩ := zip_take (as := as) (cs := cs) (bs := bs) (by simp at e ⊢; omega)
    exact ⟨X, q.cons _⟩
  | _ :: _, _, [], e => by simp at e; omega
theorem giv_more : ∀ {rs : List Rv} {os : List O} {ρ : Store}, giv ρ rs os = giv ρ rs (os.take rs.length)
  | [], os, ρ => by cases os <;> rfl
  | .o _ :: r, [], ρ => rfl
  | .p _ :: r, [], ρ => rfl
  | .o _ :: r, o :: os, ρ => by
    show giv ρ r os = giv ρ r (os.take r.length)
    exact giv_more
  | .p i :: r, o :: os, ρ => by
    show (match ρ[i]? with
      | some none => giv (ρ.set i (some o)) r os
      | _ => giv ρ r os) = (match ρ[i]? with
      | some none => giv (ρ.set i (some o)) r (os.take r.length)
      | _ => giv ρ r (os.take r.length))
    rw [giv_more (ρ := ρ.set i (some o)), giv_more (ρ := ρ)]
theorem Mt.len {T' : List (V × O)} {vs : List V} {rs : List Rv} (m : Mt σ T' vs rs) : vs.length = rs.length := by
  induction m with
  | nil => rfl
  | ex _ ih => simp [ih]
  | pl _ _ ih => simp [ih]
theorem perm5 {α : Type} (X Z Y S T : List α) : ((X ++ (Z ++ Y)) ++ (S ++ T)).Perm (Y ++ (S ++ (Z ++ (X ++ T)))) := by
  classical
  refine List.perm_iff_count.mpr fun a => ?_
  simp only [List.count_append]
  omega
/-- f(..), what is raised wished for at the caller's slots -/
theorem sx_call {ta : TA} {ods : List Od} {n : Nat} {dvs : List V} {dds : List D} {den : aF} (ha : Sa Γ P W ta ods) (hd : ∀ S, RepL Γ S dvs dds) : Sx Γ P W (tCallSD (spD Γ n den) dvs (WE W) ta) (aCall n ods dds den) := fun f σ ρ T H Q s k => by
  refine ha f σ ρ T H _ s ((Good.bind k).imp fun rs ρ1 k vs T' H1 m s1 => ?_)
  split at k
  · rename_i os ρ2 et
    split at k
    · rename_i hn
      obtain ⟨s2, hl⟩ := tak_ok m s1 et
      have dl : dvs.length = dds.length := (hd (fun _ => none)).len
      -- the arguments and the defaults, apart from what the caller holds
      have r0 : RS Γ f.c (((vs ++ dvs).zip (os ++ dds.map O.sh)) ++ (slotsR σ ρ2 ++ T)) H1 := by
        have q : RS Γ f.c (dvs.zip (dds.map O.sh) ++ (vs.zip os ++ (slotsR σ ρ2 ++ T))) H1 := by
          obtain ⟨S, sb, rd, _, ad⟩ := s2.rs.readS
          refine (ad dvs dds (hd S)).perm (List.Perm.append_left _ ?_)
          rw [← List.append_assoc, ← List.append_assoc]
          exact List.perm_append_comm.append_right T
        rw [zip_app hl.symm]
        refine q.perm ?_
        rw [← List.append_assoc]
        exact List.perm_append_comm.append_right _
      obtain ⟨e, eH, r1, back⟩ := r0.enter
      have again : ∀ (X : List (V × O)) (os' : List O) H', os'.length = n → RS Γ e (X ++ (vs ++ dvs).zip os') H' → SR Γ P f σ (giv ρ2 rs os') (X ++ T) H' := by
        intro X os' H' ho r
        have b := back _ H' r
        obtain ⟨Y, hy⟩ := zip_take (as := vs) (cs := dvs) (bs := os') (by omega)
        have p1 : (X ++ (vs ++ dvs).zip os' ++ (slotsR σ ρ2 ++ T)).Perm (Y ++ (slotsR σ ρ2 ++ (vs.zip os' ++ (X ++ T)))) := by
          exact ((hy.append_left X).append_right _).trans (perm5 _ _ _ _ _)
        have s3 : SR Γ P f σ ρ2 (vs.zip os' ++ (X ++ T)) H' := ⟨s2.ok, s2.fix, (b.perm p1).dropL⟩
        have e2 : vs.zip os' = vs.zip (os'.take rs.length) := by
          rw [← m.len]
          have hmin : min vs.length os'.length = vs.length := by omega
          have z := List.zip_eq_zip_take_min (l₁ := vs) (l₂ := os')
          rw [hmin, List.take_length] at z
          exact z
        rw [giv_more]
        rw [e2] at s3
        exact giv_ok m s3 (by rw [List.length_take, ← m.len]; omega)
      show spD Γ n den (vs ++ dvs) H1 Q (WE W σ)
      refine ⟨by rw [List.length_append]; omega, e, os ++ dds.map O.sh, by rw [List.length_append, List.length_map]; omega, r1, ?_⟩
      split at k
      · rename_i o os' ed
        split at k
        · rename_i ho
          exact ⟨ho, fun v H' r => k v H' (again [(v, o)] os' H' ho r)⟩
        · exact k.elim
      · rename_i x os' ed
        split at k
        · rename_i ho
          refine ⟨ho, fun cls d H' r => k cls d H' ?_⟩
          obtain ⟨ec, r⟩ := r
          refine ⟨ec, ?_⟩
          obtain ⟨xc, xfs⟩ := x
          cases xfs with
          | none => exact ⟨r.1, again [] os' H' ho r.2⟩
          | some fs =>
            obtain ⟨dd, e1, r⟩ := r
            exact ⟨dd, e1, again [(.ref dd, .sh (.xd fs))] os' H' ho r⟩
        · exact k.elim
      · exact k.elim
    · exact k.elim
  · exact k.elim
end
end Den
end
section
/-! Den, part K: targets, comprehensions. -/
namespace Den
open PySem L2 PySem.Spec PyProof.Rows
theorem wipe_get {σ : L2.St} {j : Nat} : ∀ {vs : List Nat}, (wipe σ vs)[j]? = if j ∈ vs then (σ[j]?).map (fun _ => none) else σ[j]?
  | [] => by simp [wipe]
  | v :: vs => by
    unfold wipe
    by_cases hv : v = j
    · subst hv
      rw [List.getElem?_set_self', wipe_get (vs := vs)]
      by_cases hm : v ∈ vs
      · rw [if_pos hm, if_pos (by simp)]
        cases σ[v]? <;> rfl
      · rw [if_neg hm, if_pos (by simp)]
        cases σ[v]? <;> rfl
    · rw [List.getElem?_set_ne hv, wipe_get (vs := vs)]
      by_cases hm : j ∈ vs
      · rw [if_pos hm, if_pos (by simp [hm])]
      · rw [if_neg hm, if_neg (by simp [hm, Ne.symm hv])]
theorem wipe_set {σ : L2.St} {i : Nat} {x : Option V} {vs : List Nat} (h : i ∈ vs) : wipe (σ.set i x) vs = wipe σ vs := by
  apply List.ext_getElem?
  intro j
  rw [wipe_get, wipe_get]
  by_cases hj : j ∈ vs
  · rw [if_pos hj, if_pos hj]
    by_cases e : i = j
    · subst e
      rw [List.getElem?_set_self']
      cases σ[i]? <;> rfl
    · rw [List.getElem?_set_ne e]
  · rw [if_neg hj, if_neg hj, List.getElem?_set_ne (fun e => hj (by rw [← e]; exact h))]
theorem wipe_wipe {σ : L2.St} {vs : List Nat} : wipe (wipe σ vs) vs = wipe σ vs := by
  apply List.ext_getElem?
  intro j
  rw [wipe_get, wipe_get]
  by_cases hj : j ∈ vs
  · rw [if_pos hj, if_pos hj]
    cases σ[j]? <;> rfl
  · rw [if_neg hj, if_neg hj]
theorem permJ {α : Type} (S A X R T : List α) : (S ++ (A ++ (X ++ (R ++ T)))).Perm (R ++ (S ++ (A ++ (X ++ T)))) := by
  classical
  refine List.perm_iff_count.mpr fun a => ?_
  simp only [List.count_append]
  omega
theorem permY {α : Type} (x d : α) (S X R T : List α) : (x :: (R ++ (S ++ ([d] ++ (X ++ T))))).Perm (S ++ (x :: d :: (X ++ (R ++ T)))) := by
  classical
  refine List.perm_iff_count.mpr fun a => ?_
  simp only [List.count_append, List.count_cons, List.count_nil]
  omega
def wipeS (ρ : Store) : List Nat → Store
  | [] => ρ
  | v :: vs => (wipeS ρ vs).set v none
def restS (ρ0 : Store) : List Nat → Store → Store
  | [], ρ => ρ
  | v :: vs, ρ => restS ρ0 vs (ρ.set v ((wipeS ρ0 vs)[v]?).join)
theorem wipeS_get {ρ : Store} {j : Nat} : ∀ {vs : List Nat}, j ∈ vs → ∀ o, (wipeS ρ vs)[j]? ≠ some (some o)
  | [], h, _ => by cases h
  | v :: vs, h, o => by
    unfold wipeS
    by_cases hv : v = j
    · subst hv
      rw [List.getElem?_set_self']
      cases (wipeS ρ vs)[v]? <;> simp
    · rw [List.getElem?_set_ne hv]
      exact wipeS_get (by simpa [Ne.symm hv] using h) o
theorem slots_resig {σ : L2.St} {ρ : Store} (h : SlotsOk σ ρ) : ∀ {σ' : L2.St}, σ'.length = σ.length → (∀ (i : Nat) (o : O), ρ[i]? = some (some o) → σ'[i]? = σ[i]?) → SlotsOk σ' ρ ∧ slotsR σ' ρ = slotsR σ ρ := by
  induction h with
  | nil =>
    intro σ' e _
    obtain rfl : σ' = [] := List.eq_nil_of_length_eq_zero (by simpa using e)
    exact ⟨.nil, rfl⟩
  | @skip x σ ρ h ih =>
    intro σ' e k
    cases σ' with
    | nil => simp at e
    | cons y σ' =>
      obtain ⟨a, b⟩ := ih (σ' := σ') (by simpa using e) fun i o q => by
        have := k (i + 1) o (by simpa using q)
        simpa using this
      exact ⟨.skip a, by rw [slotsR_skip, slotsR_skip, b]⟩
  | @keep v o σ ρ h ih =>
    intro σ' e k
    cases σ' with
    | nil => simp at e
    | cons y σ' =>
      obtain ⟨a, b⟩ := ih (σ' := σ') (by simpa using e) fun i o q => by
        have := k (i + 1) o (by simpa using q)
        simpa using this
      have y0 := k 0 o rfl
      obtain rfl : y = some v := by simpa using y0
      exact ⟨.keep a, by show (v, o) :: slotsR σ' ρ = (v, o) :: slotsR σ ρ; rw [b]⟩
def offP (P : Nat → Bool) (vs : List Nat) : Nat → Bool := fun j => P j && !vs.contains j
section
variable {Γ : Gb} {P : Nat → Bool} {W : WX} {f : Fr} {σ : L2.St} {ρ : Store} {T : List (V × O)} {H : Hp}
theorem SR.out1 (s : SR Γ P f σ ρ T H) (i : Nat) : ∃ X, SR Γ P f σ (ρ.set i none) (X ++ T) H ∧ ∀ ρ' T' H', SR Γ P f σ ρ' (X ++ T') H' → SR Γ P f σ (ρ'.set i (ρ[i]?).join) T' H' := by
  cases e : ρ[i]? with
  | none => exact ⟨[], s.clear, fun ρ' T' H' q => q.clear⟩
  | some o =>
    cases o with
    | none => exact ⟨[], s.clear, fun ρ' T' H' q => q.clear⟩
    | some o =>
      obtain ⟨v, hv, s'⟩ := s.take e
      exact ⟨[(v, o)], s', fun ρ' T' H' q => SR.back (v := v) (o := o) q hv⟩
theorem SR.outs (s : SR Γ P f σ ρ T H) : ∀ vs : List Nat, ∃ X, SR Γ P f σ (wipeS ρ vs) (X ++ T) H ∧ ∀ ρ' T' H', SR Γ P f σ ρ' (X ++ T') H' → SR Γ P f σ (restS ρ vs ρ') T' H'
  | [] => ⟨[], s, fun ρ' T' H' q => q⟩
  | v :: vs => by
    obtain ⟨X, a, b⟩ := SR.outs s vs
    obtain ⟨Y, a', b'⟩ := a.out1 v
    refine ⟨Y ++ X, by rw [List.append_assoc]; exact a', fun ρ' T' H' q => ?_⟩
    rw [List.append_assoc] at q
    exact b _ _ _ (b' _ _ _ q)
theorem SR.resig {P' : Nat → Bool} {σ' : L2.St} (s : SR Γ P f σ ρ T H) (hl : σ'.length = σ.length) (k : ∀ (i : Nat) (o : O), ρ[i]? = some (some o) → σ'[i]? = σ[i]?) (hp : ∀ j, P' j = true → σ'[j]? = f.s0[j]?) : SR Γ P' f σ' ρ T H := by
  obtain ⟨a, b⟩ := slots_resig s.ok hl k
  exact ⟨a, hp, by rw [b]; exact s.rs⟩
theorem SR.clears (s : SR Γ P f σ ρ T H) : ∀ vs : List Nat, SR Γ P f σ (wipeS ρ vs) T H
  | [] => s
  | v :: vs => (SR.clears s vs).clear
theorem offP_of {vs : List Nat} {j : Nat} (h : offP P vs j = true) : P j = true ∧ j ∉ vs := by
  unfold offP at h
  rw [Bool.and_eq_true] at h
  exact ⟨h.1, by simpa using h.2⟩
theorem SR.block {vs : List Nat} (s : SR Γ P f σ ρ T H) (hw : ∀ i ∈ vs, ∀ o, ρ[i]? ≠ some (some o)) : SR Γ (offP P vs) f (wipe σ vs) ρ T H := by
  refine s.resig (wipe_length σ vs) (fun i o e => ?_) fun j hj => ?_
  · rw [wipe_get, if_neg fun m => hw i m o e]
  · obtain ⟨a, b⟩ := offP_of hj
    rw [wipe_get, if_neg b]
    exact s.fix j a
theorem SR.again {vs : List Nat} {σ0 : L2.St} (s : SR Γ (offP P vs) f σ ρ T H) (hw : wipe σ vs = wipe σ0 vs) : SR Γ (offP P vs) f (wipe σ0 vs) (wipeS ρ vs) T H := by
  have s' := s.clears vs
  rw [← hw]
  refine s'.resig (wipe_length σ vs) (fun i o e => ?_) fun j hj => ?_
  · rw [wipe_get, if_neg fun m => wipeS_get m o e]
  · obtain ⟨a, b⟩ := offP_of hj
    rw [wipe_get, if_neg b]
    exact s.fix j hj
theorem SR.unblock {vs : List Nat} {σ0 : L2.St} (s : SR Γ (offP P vs) f (wipe σ0 vs) ρ T H) (hw : ∀ i ∈ vs, ∀ o, ρ[i]? ≠ some (some o)) (hp : ∀ j, P j = true → σ0[j]? = f.s0[j]?) : SR Γ P f σ0 ρ T H := by
  refine s.resig (wipe_length σ0 vs).symm (fun i o e => ?_) hp
  rw [wipe_get, if_neg fun m => hw i m o e]
end
/-! ### targets -/
abbrev aG := D → Store → Option Store
def aN (i : Nat) : aG := fun d ρ => if i < ρ.length then some (ρ.set i (some (.sh d))) else none
/-- one after another -/
def aGs : List aG → List D → Store → Option Store
  | [], [], ρ => some ρ
  | g :: gs, d :: ds, ρ => (g d ρ).bind fun ρ' => aGs gs ds ρ'
  | _, _, _ => none
def aTupG (gs : List aG) : aG := fun d ρ => match d with
  | .tup ds => aGs gs ds ρ
  | _ => none
/-- what a target stores leaves all but the slots vs -/
def Sg (Γ : Gb) (P : Nat → Bool) (vs : List Nat) (g : TG) (a : aG) : Prop := ∀ f σ ρ T H v d ρ' Q, SR Γ P f σ ρ ((v, .sh d) :: T) H → a d ρ = some ρ' → (∀ σ' H', wipe σ' vs = wipe σ vs → SR Γ P f σ' ρ' T H' → Q σ' H') → g v σ H Q
def Sgs (Γ : Gb) (P : Nat → Bool) (vs : List Nat) (g : TGs) (as : List aG) : Prop := ∀ f σ ρ T H us ds ρ' Q, SR Γ P f σ ρ (us.zip (ds.map O.sh) ++ T) H → us.length = ds.length → aGs as ds ρ = some ρ' → (∀ σ' H', wipe σ' vs = wipe σ vs → SR Γ P f σ' ρ' T H' → Q σ' H') → g us σ H Q
section
variable {Γ : Gb} {P : Nat → Bool} {vs : List Nat}
theorem sg_name {i : Nat} (hp : P i = false) (hi : i ∈ vs) : Sg Γ P vs (gName i) (aN i) := fun f σ ρ T H v d ρ' Q s e k => by
  unfold aN at e
  split at e
  · rename_i hl
    cases e
    exact k _ _ (wipe_set hi) (s.set (by rw [s.lenS]; exact hl) hp)
  · cases e
theorem sgs_nil : Sgs Γ P vs gNil [] := fun f σ ρ T H us ds ρ' Q s hl e k => by
  cases ds with
  | nil =>
    cases us with
    | nil =>
      cases e
      exact ⟨rfl, k _ _ rfl s⟩
    | cons _ _ => simp at hl
  | cons _ _ => cases e
theorem sgs_cons {g : TG} {gs : TGs} {a : aG} {as : List aG} (h1 : Sg Γ P vs g a) (h2 : Sgs Γ P vs gs as) : Sgs Γ P vs (gCons g gs) (a :: as) := fun f σ ρ T H us ds ρ' Q s hl e k => by
  cases ds with
  | nil => cases e
  | cons d ds =>
    cases us with
    | nil => simp at hl
    | cons u us =>
      simp only [aGs, Option.bind_eq_some_iff] at e
      obtain ⟨ρ1, e1, e2⟩ := e
      exact ⟨u, us, rfl, h1 f σ ρ _ H u d ρ1 _ s e1 fun σ1 H1 w1 s1 => h2 f σ1 ρ1 T H1 us ds ρ' Q s1 (by simpa using hl) e2 fun σ2 H2 w2 s2 => k σ2 H2 (w2.trans w1) s2⟩
theorem aGs_len : ∀ {as : List aG} {ds : List D} {ρ ρ' : Store}, aGs as ds ρ = some ρ' → ds.length = as.length
  | [], [], _, _, _ => rfl
  | a :: as, d :: ds, ρ, ρ', e => by
    simp only [aGs, Option.bind_eq_some_iff] at e
    obtain ⟨ρ1, e1, e2⟩ := e
    simp [aGs_len e2]
  | [], _ :: _, _, _, e => by cases e
  | _ :: _, [], _, _, e => by cases e
theorem sg_tup {n : Nat} {gs : TGs} {as : List aG} (h : Sgs Γ P vs gs as) (hn : as.length = n) : Sg Γ P vs (L2.gTup Γ.K n gs) (aTupG as) := fun f σ ρ T H v d ρ' Q s e k => by
  unfold aTupG at e
  split at e
  · rename_i ds
    obtain ⟨a, xs, rfl, p, q⟩ := RS.tup (v := v) (o := .sh (.tup ds)) s.rs (by simp) rfl
    refine ⟨a, xs, rfl, p, by rw [q.len, aGs_len e, hn], h f σ ρ T H xs ds ρ' Q ?_ q.len e k⟩
    obtain ⟨S, sb, r, _, ad⟩ := q.ex
    have z := ad xs ds r
    refine ⟨s.ok, s.fix, ?_⟩
    have pm : (xs.zip (ds.map O.sh) ++ (slotsR σ ρ ++ (V.ref a, O.sh (.tup ds)) :: T)).Perm ((V.ref a, O.sh (.tup ds)) :: (slotsR σ ρ ++ (xs.zip (ds.map O.sh) ++ T))) := by
      refine (List.perm_append_comm_assoc _ _ _).trans ?_
      refine (List.Perm.append_left _ List.perm_middle).trans ?_
      exact List.perm_middle
    exact (z.perm pm).drop
  · cases e
end
/-! ### list comprehensions -/
def lcL (vs : List Nat) (tg : aG) (tt : aT) (ge : aE) : List D → Store → Res (List D)
  | [], ρ => .ok [] ρ
  | d :: ds, ρ => match tg d ρ with
    | some ρ1 => (tt ρ1).bind fun b ρ2 => if b = true then (ge ρ2).bind fun o ρ3 => (lcL vs tg tt ge ds (wipeS ρ3 vs)).bind fun r ρ4 => .ok (fz o :: r) ρ4 else lcL vs tg tt ge ds (wipeS ρ2 vs)
    | none => .stuck
def aYes : aT := fun ρ => .ok true ρ
def aLc (src : aI) (vs : List Nat) (tg : aG) (tt : aT) (ge : aE) : aE := fun ρ => (src ρ).bind fun ds ρ1 => if ds.length ≤ 16000000 then match lcL vs tg tt ge ds (wipeS ρ1 vs) with
    | .ok r ρ2 => .ok (.lst (r.map O.sh)) (restS ρ1 vs ρ2)
    | _ => .stuck
  else .stuck
abbrev W0 : WX := fun _ _ _ _ => False
theorem res_bind_ok {α β : Type} {r : Res α} {g : α → Store → Res β} {b : β} {ρ : Store} (h : r.bind g = .ok b ρ) : ∃ a ρ1, r = .ok a ρ1 ∧ g a ρ1 = .ok b ρ := by
  cases r with
  | ok a ρ1 => exact ⟨a, ρ1, rfl, h⟩
  | exc x ρ1 => cases h
  | stuck => cases h
section
variable {Γ : Gb} {P : Nat → Bool} {W : WX} {vs : List Nat}
theorem sxt_yes : Sxt Γ P W tYes aYes := fun f σ ρ T H Q s k => k H s
/-- a value is put behind a list's items -/
theorem SR.push {f : Fr} {σ : L2.St} {ρ : Store} {T : List (V × O)} {H : Hp} {y : V} {o : O} {D1 : Addr} {acc : List D} (s : SR Γ P f σ ρ ((y, o) :: (.ref D1, .lst (acc.map O.sh)) :: T) H) :
    ∃ vs, H D1 = some (.lst vs) ∧ vs.length = acc.length ∧ SR Γ P f σ ρ ((.ref D1, .lst ((acc ++ [Den.fz o]).map O.sh)) :: T) (upd H D1 (.lst (vs ++ [y]))) := by
  have s1 := s.fz.permT (List.Perm.swap _ _ _)
  have r1 : RS Γ f.c ((.ref D1, .lst (acc.map O.sh)) :: ((y, .sh (Den.fz o)) :: T ++ slotsR σ ρ)) H := s1.rs.perm List.perm_append_comm
  obtain ⟨a, rs, e, e2, ha, op⟩ := r1.openL
  cases e
  refine ⟨rs.map Prod.fst, ha, by rw [List.length_map, ← List.length_map (f := Prod.snd) (as := rs), ← e2, List.length_map], s.ok, s.fix, ?_⟩
  have op2 : RSL Γ f.c ((rs ++ [(y, .sh (Den.fz o))]) ++ (T ++ slotsR σ ρ)) [D1] H := op.perm (by
    rw [List.append_assoc]
    exact List.Perm.refl _)
  have cl := (op2.put (u := .lst (rs.map Prod.fst ++ [y])) noT_lst).closeL (by rw [upd_same, List.map_append]; rfl)
  rw [List.map_append, ← e2] at cl
  have z : RS Γ f.c ((.ref D1, .lst ((acc ++ [Den.fz o]).map O.sh)) :: (T ++ slotsR σ ρ)) (upd H D1 (.lst (rs.map Prod.fst ++ [y]))) := by
    rw [List.map_append]
    exact cl
  exact z.perm (List.perm_append_comm (l₁ := (V.ref D1, O.lst ((acc ++ [Den.fz o]).map O.sh)) :: T))
theorem sx_lc {wi : TI} {g : TG} {tt : TT} {te : TE} {src : aI} {tg : aG} {at_ : aT} {ge : aE} (hi : Sxi Γ P W wi src) (hg : Sg Γ (offP P vs) vs g tg) (ht : Sxt Γ (offP P vs) W0 tt at_) (he : Sx Γ (offP P vs) W0 te ge) :
    Sx Γ P W (tLc wi g tt te vs) (aLc src vs tg at_ ge) := fun f σ ρ T H Q s k => by
  refine hi f σ ρ T H _ s ((Good.bind k).imp fun ds ρ1 k J Rj H1 it s1 D1 hD => ?_)
  split at k
  · rename_i hlen
    split at k
    · rename_i r ρ2 er
      obtain ⟨X, sx, rest⟩ := s1.outs vs
      have b0 := sx.block (vs := vs) fun i m o => wipeS_get m o
      -- the list that is made
      have b1 : SR Γ (offP P vs) f (wipe σ vs) (wipeS ρ1 vs) ((.ref D1, .lst (([] : List D).map O.sh)) :: (X ++ (Rj ++ T))) (upd H1 D1 (.lst [])) :=
        b0.mapT fun R q => RS.newL (rs := []) q hD
      refine ⟨fun i m H' => m = ds.length - i ∧ i ≤ ds.length ∧ ∃ ρ' acc r', acc.length ≤ i ∧ lcL vs tg at_ ge (ds.drop i) ρ' = .ok r' ρ2 ∧ acc ++ r' = r ∧ (∀ i ∈ vs, ∀ o, ρ'[i]? ≠ some (some o)) ∧
        SR Γ (offP P vs) f (wipe σ vs) ρ' ((.ref D1, .lst (acc.map O.sh)) :: (X ++ (Rj ++ T))) H', ⟨ds.length, by simp, Nat.zero_le _, wipeS ρ1 vs, [], r, Nat.le_refl _, by rw [List.drop_zero]; exact er, rfl, fun i m o => wipeS_get m o, b1⟩, ?_⟩
      rintro i m H' ⟨rfl, hle, ρ', acc, r', hacc, el, er', hw, s'⟩
      have toJ : ∀ {ρ'' : Store} {σ'' : L2.St} {H'' : Hp} {T1 : List (V × O)}, SR Γ (offP P vs) f σ'' ρ'' (T1 ++ (X ++ (Rj ++ T))) H'' → RS Γ f.c (Rj ++ (slotsR σ'' ρ'' ++ (T1 ++ (X ++ T)))) H'' := fun q => q.rs.perm (permJ _ _ _ _ _)
      by_cases hi' : i < ds.length
      · obtain ⟨d, hd⟩ := get_of_lt hi'
        have hdrop : ds.drop i = d :: ds.drop (i + 1) := by
          rw [List.drop_eq_getElem_cons hi']
          rw [List.getElem?_eq_getElem hi'] at hd
          cases hd
          rfl
        rw [hdrop] at el
        unfold lcL at el
        split at el
        · rename_i ρa ea
          obtain ⟨b, ρb, eb, el⟩ := res_bind_ok el
          refine .inr ⟨it.go f.c _ i H' (toJ (T1 := [(V.ref D1, O.lst (acc.map O.sh))]) s') hi', fun H'' => ∃ ρ'' acc' r'', acc'.length ≤ i + 1 ∧ lcL vs tg at_ ge (ds.drop (i + 1)) ρ'' = .ok r'' ρ2 ∧ acc' ++ r'' = r ∧ (∀ i ∈ vs, ∀ o, ρ''[i]? ≠ some (some o)) ∧
            SR Γ (offP P vs) f (wipe σ vs) ρ'' ((.ref D1, .lst (acc'.map O.sh)) :: (X ++ (Rj ++ T))) H'', fun H'' ⟨ρ'', acc', r'', q1, q2, q3, q4, q5⟩ => ⟨ds.length - (i + 1), by omega, rfl, hi', ρ'', acc', r'', q1, q2, q3, q4, q5⟩, fun x H'' y => ?_⟩
          have sy : SR Γ (offP P vs) f (wipe σ vs) ρ' ((x, .sh d) :: (.ref D1, .lst (acc.map O.sh)) :: (X ++ (Rj ++ T))) H'' :=
            ⟨s'.ok, s'.fix, (it.yld f.c _ i d x H' H'' (toJ (T1 := [(V.ref D1, O.lst (acc.map O.sh))]) s') hd y).perm (permY _ _ _ _ _ _)⟩
          refine hg f _ ρ' _ H'' x d ρa _ sy ea fun σ2 H2 w2 s2 => ⟨w2.trans wipe_wipe, ht f σ2 ρa _ H2 _ s2 ?_⟩
          rw [eb]
          intro H3 s3
          cases b with
          | true =>
            refine iteT ?_
            rw [if_pos rfl] at el
            obtain ⟨o, ρc, ec, el⟩ := res_bind_ok el
            obtain ⟨r'', ρd, ed, el⟩ := res_bind_ok el
            cases el
            refine he f σ2 ρb _ H3 _ s3 ?_
            rw [ec]
            intro y H4 s4
            obtain ⟨us, hus, hul, s5⟩ := s4.push
            refine ⟨us, hus, lt_line (by omega), wipeS ρc vs, acc ++ [fz o], r'', by rw [List.length_append]; exact Nat.add_le_add_right hacc 1, ed, by rw [← er']; simp, fun i m o => wipeS_get m o, s5.again (w2.trans wipe_wipe)⟩
          | false =>
            refine iteF ?_
            rw [if_neg (by simp)] at el
            exact ⟨wipeS ρb vs, acc, r', by omega, el, er', fun i m o => wipeS_get m o, s3.again (w2.trans wipe_wipe)⟩
        · cases el
      · have hil : i = ds.length := by omega
        subst hil
        rw [List.drop_length] at el
        cases el
        rw [List.append_nil] at er'
        subst er'
        refine .inl ⟨it.stop f.c _ H' (toJ (T1 := [(V.ref D1, O.lst (acc.map O.sh))]) s'), k _ _ ?_⟩
        have u := (s'.unblock hw s.fix).permT (T' := X ++ ((V.ref D1, O.lst (acc.map O.sh)) :: (Rj ++ T))) List.perm_middle.symm
        have v := (rest _ _ _ u).permT (T' := Rj ++ ((V.ref D1, O.lst (acc.map O.sh)) :: T)) List.perm_middle.symm
        exact v.dropL
    · exact k.elim
  · exact k.elim
end
end Den
end
section
/-! Den, part L: statements. -/
namespace Den
open PySem L2 PySem.Spec PyProof.Rows
inductive Out where
  | nx (ρ : Store) | brk (ρ : Store) | ct (ρ : Store) | ret (o : O) (ρ : Store) | exc (x : Xn) (ρ : Store) | stuck
abbrev aS := Store → Out
def Res.out {α : Type} : Res α → (α → Store → Out) → Out
  | .ok a ρ, k => k a ρ
  | .exc x ρ, _ => .exc x ρ
  | .stuck, _ => .stuck
def GoodS (Γ : Gb) (P : Nat → Bool) (W : WX) (f : Fr) (T : List (V × O)) (D : Ends) : Out → Prop
  | .nx ρ => ∀ σ H, SR Γ P f σ ρ T H → D.nx σ H
  | .brk ρ => ∀ σ H, SR Γ P f σ ρ T H → D.bk σ H
  | .ct ρ => ∀ σ H, SR Γ P f σ ρ T H → D.ct σ H
  | .ret o ρ => ∀ σ v H, SR Γ P f σ ρ ((v, o) :: T) H → D.rt v H
  | .exc x ρ => ∀ σ cls d H, XR Γ P f σ ρ T x cls d H → W cls d σ H
  | .stuck => False
def Ss (Γ : Gb) (P : Nat → Bool) (W : WX) (ts : TS) (g : aS) : Prop := ∀ f σ ρ T H D, SR Γ P f σ ρ T H → GoodS Γ P W f T D (g ρ) → ts D σ H
section
variable {α : Type} {Γ : Gb} {P : Nat → Bool} {W : WX} {f : Fr} {σ : L2.St} {T : List (V × O)} {D : Ends}
theorem GoodS.bind {k : α → Store → Out} {r : Res α} (h : GoodS Γ P W f T D (r.out k)) : Good Γ P W f σ T (fun a ρ => GoodS Γ P W f T D (k a ρ)) r := by
  cases r with
  | ok a ρ => exact h
  | exc x ρ => exact fun cls d H q => h σ cls d H q
  | stuck => exact h
end
/-! ### their dens -/
def sNext : aS := fun ρ => .nx ρ
def sBrk : aS := fun ρ => .brk ρ
def sCt : aS := fun ρ => .ct ρ
def sSeq (g h : aS) : aS := fun ρ => match g ρ with
  | .nx ρ' => h ρ'
  | o => o
def sDrop (g : aE) : aS := fun ρ => (g ρ).out fun _ ρ' => .nx ρ'
def sRet (g : aE) : aS := fun ρ => (g ρ).out fun o ρ' => .ret o ρ'
def sRetN : aS := fun ρ => .ret (.sh .non) ρ
def sIf (p : aT) (g h : aS) : aS := fun ρ => (p ρ).out fun b ρ' => if b = true then g ρ' else h ρ'
def sSet (i : Nat) (g : aE) : aS := fun ρ => (g ρ).out fun o ρ' => if i < ρ'.length then .nx (ρ'.set i (some o)) else .stuck
def sAsg (g : aE) (tg : aG) : aS := fun ρ => (g ρ).out fun o ρ' => match tg (fz o) ρ' with
  | some ρ2 => .nx ρ2
  | none => .stuck
def sPar (i j : Nat) (g h : aE) : aS := fun ρ => (g ρ).out fun o ρ1 => (h ρ1).out fun u ρ2 => if i < ρ2.length ∧ j < ρ2.length then .nx ((ρ2.set i (some o)).set j (some u)) else .stuck
def sPar3 (i j l : Nat) (g h k : aE) : aS := fun ρ => (g ρ).out fun o ρ1 => (h ρ1).out fun u ρ2 => (k ρ2).out fun w ρ3 => if i < ρ3.length ∧ j < ρ3.length ∧ l < ρ3.length then .nx (((ρ3.set i (some o)).set j (some u)).set l (some w)) else .stuck
def sAug (i : Nat) (g : aE) (f : O → O → Option O) : aS := fun ρ => match ρ[i]? with
  | some (some _) => (g ρ).out fun o ρ1 => match ρ1[i]? with
    | some (some x) => match f x o with
      | some w => .nx (ρ1.set i (some w))
      | none => .stuck
    | _ => .stuck
  | _ => .stuck
def forD (tg : aG) (body : aS) : List D → Store → Out
  | [], ρ => .nx ρ
  | d :: ds, ρ => match tg d ρ with
    | some ρ1 => match body ρ1 with
      | .nx ρ2 => forD tg body ds ρ2
      | .ct ρ2 => forD tg body ds ρ2
      | .brk ρ2 => .nx ρ2
      | o => o
    | none => .stuck
def sFor (src : aI) (tg : aG) (body : aS) : aS := fun ρ => (src ρ).out fun ds ρ1 => forD tg body ds ρ1
def wl (p : aT) (b : aS) : Nat → Store → Out
  | 0, _ => .stuck
  | n + 1, ρ => (p ρ).out fun c ρ1 => if c = true then match b ρ1 with
      | .nx ρ2 => wl p b n ρ2
      | .ct ρ2 => wl p b n ρ2
      | .brk ρ2 => .nx ρ2
      | o => o
    else .nx ρ1
open Classical in
noncomputable def sWhile (p : aT) (b : aS) : aS := fun ρ => if h : ∃ n, wl p b n ρ ≠ .stuck then wl p b h.choose ρ else .stuck
theorem wl_more {p : aT} {b : aS} : ∀ {n : Nat} {ρ : Store}, wl p b n ρ ≠ .stuck → wl p b (n + 1) ρ = wl p b n ρ
  | 0, ρ, h => (h rfl).elim
  | n + 1, ρ, h => by
    rw [wl] at h ⊢
    rw [wl]
    cases e : p ρ with
    | ok c ρ1 =>
      rw [e] at h
      simp only [Res.out] at h ⊢
      cases c with
      | false => rfl
      | true =>
        rw [if_pos rfl] at h ⊢
        rw [if_pos rfl]
        cases e2 : b ρ1 with
        | nx ρ2 =>
          rw [e2] at h
          exact wl_more h
        | ct ρ2 =>
          rw [e2] at h
          exact wl_more h
        | brk ρ2 => rfl
        | ret o ρ2 => rfl
        | exc x ρ2 => rfl
        | stuck => rfl
    | exc x ρ1 => rfl
    | stuck => rfl
theorem wl_add {p : aT} {b : aS} {n : Nat} {ρ : Store} (h : wl p b n ρ ≠ .stuck) : ∀ k, wl p b (n + k) ρ = wl p b n ρ
  | 0 => rfl
  | k + 1 => by
    have ih := wl_add h k
    have := wl_more (p := p) (b := b) (n := n + k) (ρ := ρ) (by rw [ih]; exact h)
    rw [← ih, ← this]
    rfl
theorem sWhile_of {p : aT} {b : aS} {n : Nat} {ρ : Store} (h : wl p b n ρ ≠ .stuck) : sWhile p b ρ = wl p b n ρ := by
  have hx : ∃ n, wl p b n ρ ≠ .stuck := ⟨n, h⟩
  unfold sWhile
  rw [dif_pos hx]
  have h2 := hx.choose_spec
  rcases Nat.le_total n hx.choose with l | l
  · obtain ⟨k, e⟩ := Nat.exists_eq_add_of_le l
    rw [e, wl_add h k]
  · obtain ⟨k, e⟩ := Nat.exists_eq_add_of_le l
    rw [e, wl_add h2 k]
theorem sWhile_ex {p : aT} {b : aS} {ρ : Store} (h : sWhile p b ρ ≠ .stuck) : ∃ n, wl p b n ρ ≠ .stuck ∧ sWhile p b ρ = wl p b n ρ := by
  by_cases hx : ∃ n, wl p b n ρ ≠ .stuck
  · obtain ⟨n, hn⟩ := hx
    exact ⟨n, hn, sWhile_of hn⟩
  · exact (h (by unfold sWhile; rw [dif_neg hx])).elim
/-- one turn of it -/
theorem sWhile_eq (p : aT) (b : aS) (ρ : Store) : sWhile p b ρ = (p ρ).out fun c ρ1 => if c = true then match b ρ1 with
      | .nx ρ2 => sWhile p b ρ2
      | .ct ρ2 => sWhile p b ρ2
      | .brk ρ2 => .nx ρ2
      | o => o
    else .nx ρ1 := by
  have key : ∀ ρ1 ρ2 : Store, (∀ n, wl p b (n + 1) ρ = wl p b n ρ2) → sWhile p b ρ = sWhile p b ρ2 := fun ρ1 ρ2 h => by
    by_cases hx : ∃ n, wl p b n ρ2 ≠ .stuck
    · obtain ⟨n, hn⟩ := hx
      rw [sWhile_of hn, sWhile_of (n := n + 1) (by rw [h]; exact hn), h]
    · have h2 : ¬ ∃ n, wl p b n ρ ≠ .stuck := fun ⟨n, hn⟩ => by
        cases n with
        | zero => exact hn rfl
        | succ n => exact hx ⟨n, by rw [← h]; exact hn⟩
      unfold sWhile
      rw [dif_neg hx, dif_neg h2]
  have now : ∀ o : Out, (∀ n, wl p b (n + 1) ρ = o) → sWhile p b ρ = o := fun o h => by
    by_cases e : o = .stuck
    · have h2 : ¬ ∃ n, wl p b n ρ ≠ .stuck := fun ⟨n, hn⟩ => by
        cases n with
        | zero => exact hn rfl
        | succ n => exact hn (by rw [h, e])
      unfold sWhile
      rw [dif_neg h2, e]
    · rw [sWhile_of (n := 1) (by rw [h]; exact e), h]
  cases e : p ρ with
  | ok c ρ1 =>
    cases c with
    | false => exact now _ fun n => by rw [wl, e]; rfl
    | true =>
      cases e2 : b ρ1 with
      | nx ρ2 => exact (key ρ1 ρ2 fun n => by simp [wl, e, e2, Res.out]).trans (by simp [e2, Res.out])
      | ct ρ2 => exact (key ρ1 ρ2 fun n => by simp [wl, e, e2, Res.out]).trans (by simp [e2, Res.out])
      | brk ρ2 => exact now _ fun n => by simp [wl, e, e2, Res.out]
      | ret o ρ2 => exact now _ fun n => by simp [wl, e, e2, Res.out]
      | exc x ρ2 => exact now _ fun n => by simp [wl, e, e2, Res.out]
      | stuck => exact now _ fun n => by simp [wl, e, e2, Res.out]
  | exc x ρ1 => exact now _ fun n => by rw [wl, e]; rfl
  | stuck => exact now _ fun n => by rw [wl, e]; rfl
/-! ### they are sound -/
section
variable {Γ : Gb} {P : Nat → Bool} {W : WX} {t u : TS} {g h : aS} {te ta tb tc : TE} {ge gf gk : aE} {tt : TT} {p : aT}
theorem ss_next : Ss Γ P W tNext sNext := fun f σ ρ T H D s k => k σ H s
theorem ss_brk : Ss Γ P W tBreak sBrk := fun f σ ρ T H D s k => k σ H s
theorem ss_ct : Ss Γ P W tCont sCt := fun f σ ρ T H D s k => k σ H s
theorem ss_seq (h1 : Ss Γ P W t g) (h2 : Ss Γ P W u h) : Ss Γ P W (tSeq t u) (sSeq g h) := fun f σ ρ T H D s k => by
  refine h1 f σ ρ T H { D with nx := u D } s ?_
  unfold sSeq at k
  cases e : g ρ with
  | nx ρ' =>
    rw [e] at k
    exact fun σ' H' s' => h2 f σ' ρ' T H' D s' k
  | brk ρ' => rw [e] at k; exact k
  | ct ρ' => rw [e] at k; exact k
  | ret o ρ' => rw [e] at k; exact k
  | exc x ρ' => rw [e] at k; exact k
  | stuck => rw [e] at k; exact k
theorem ss_drop (h1 : Sx Γ P W te ge) : Ss Γ P W (tDrop te) (sDrop ge) := fun f σ ρ T H D s k =>
  h1 f σ ρ T H _ s ((GoodS.bind k).imp fun o ρ' k v H' s' => k σ H' s'.drop)
theorem ss_ret (h1 : Sx Γ P W te ge) : Ss Γ P W (tRet te) (sRet ge) := fun f σ ρ T H D s k =>
  h1 f σ ρ T H _ s ((GoodS.bind k).imp fun o ρ' k v H' s' => k σ v H' s')
theorem ss_retN : Ss Γ P W tRetN sRetN := fun f σ ρ T H D s k => k σ _ H (s.pure fun _ => .non)
theorem ss_if (h1 : Sxt Γ P W tt p) (h2 : Ss Γ P W t g) (h3 : Ss Γ P W u h) : Ss Γ P W (tIfS tt t u) (sIf p g h) := fun f σ ρ T H D s k => by
  refine h1 f σ ρ T H _ s ((GoodS.bind k).imp fun b ρ' k H' s' => ?_)
  cases b with
  | true => exact iteT (h2 f σ ρ' T H' D s' k)
  | false => exact iteF (h3 f σ ρ' T H' D s' k)
theorem ss_set {i : Nat} (hp : P i = false) (h1 : Sx Γ P W te ge) : Ss Γ P W (tAsg te (gName i)) (sSet i ge) := fun f σ ρ T H D s k => by
  refine h1 f σ ρ T H _ s ((GoodS.bind k).imp fun o ρ' k v H' s' => ?_)
  split at k
  · rename_i hi
    exact k _ _ (s'.set (by rw [s'.lenS]; exact hi) hp)
  · exact k.elim
theorem ss_asg {tg : TG} {a : aG} {vs : List Nat} (h1 : Sx Γ P W te ge) (hg : Sg Γ P vs tg a) : Ss Γ P W (tAsg te tg) (sAsg ge a) := fun f σ ρ T H D s k => by
  refine h1 f σ ρ T H _ s ((GoodS.bind k).imp fun o ρ' k v H' s' => ?_)
  split at k
  · rename_i ρ2 e
    exact hg f σ ρ' T H' v _ ρ2 _ s'.fz e fun σ2 H2 _ s2 => k σ2 H2 s2
  · exact k.elim
theorem ss_par {i j : Nat} (hi : P i = false) (hj : P j = false) (h1 : Sx Γ P W ta ge) (h2 : Sx Γ P W tb gf) : Ss Γ P W (tPar i j (tCons ta (tCons tb tNil))) (sPar i j ge gf) := fun f σ ρ T H D s k => by
  refine h1 f σ ρ T H _ s ((GoodS.bind k).imp fun o ρ1 k v H1 s1 => ?_)
  have k2 := (GoodS.bind (σ := σ) k).more (T' := [(v, o)])
  refine h2 f σ ρ1 _ H1 _ s1 (k2.imp fun u ρ2 k w H2 s2 => ?_)
  split at k
  · rename_i hl
    refine ⟨v, w, rfl, k _ _ ?_⟩
    have s3 := (s2.permT (List.Perm.swap _ _ _)).set (i := i) (by rw [s2.lenS]; exact hl.1) hi
    exact s3.set (i := j) (by rw [s3.lenS, List.length_set]; exact hl.2) hj
  · exact k.elim
theorem ss_aug {i : Nat} {ti : TIp} {r : O → O → Option O} (hi : P i = false) (h1 : Sx Γ P W te ge) (ok : Op2 Γ ti r) : Ss Γ P W (tAug i te ti) (sAug i ge r) := fun f σ ρ T H D s k => by
  unfold sAug at k
  split at k
  · rename_i o0 e0
    obtain ⟨x, hx, _⟩ := s.take e0
    refine ⟨x, hx, h1 f σ ρ T H _ s ((GoodS.bind k).imp fun o ρ1 k v H1 s1 => ?_)⟩
    split at k
    · rename_i ox e1
      split at k
      · rename_i w ew
        have hl : i < ρ1.length := (List.getElem?_eq_some_iff.mp e1).1
        refine ok f.c _ H1 x ox v o w _ s1.rs (List.mem_append_left _ (slots_mem s1.ok e1 hx)) (by simp) ew fun z H2 q => k _ _ ?_
        have s2 : SR Γ P f σ ρ1 ((z, w) :: (v, o) :: T) H2 := ⟨s1.ok, s1.fix, q.perm List.perm_middle.symm⟩
        exact (s2.permT (List.Perm.swap _ _ _)).drop.set (by rw [s2.lenS]; exact hl) hi
      · exact k.elim
    · exact k.elim
  · exact k.elim
theorem GoodS.nxL {f : Fr} {T T' : List (V × O)} {D : Ends} {x : Xn} {ρ : Store} (k : GoodS Γ P W f T D (.exc x ρ)) : GoodS Γ P W f (T' ++ T) D (.exc x ρ) := fun σ cls d H q => k σ cls d H q.dropL
theorem ss_for {wi : TI} {src : aI} {tg : TG} {a : aG} {vs : List Nat} (hi : Sxi Γ P W wi src) (hg : Sg Γ P vs tg a) (hb : Ss Γ P W t g) : Ss Γ P W (tFor wi tg t) (sFor src a g) := fun f σ ρ T H D s k => by
  refine hi f σ ρ T H _ s ((GoodS.bind k).imp fun ds ρ1 k J Rj H1 it s1 => ?_)
  refine ⟨fun i m σ H => m = ds.length - i ∧ i ≤ ds.length ∧ ∃ ρ', SR Γ P f σ ρ' (Rj ++ T) H ∧ GoodS Γ P W f T D (forD a g (ds.drop i) ρ'), ⟨ds.length, by simp, Nat.zero_le _, ρ1, s1, by rw [List.drop_zero]; exact k⟩, ?_⟩
  rintro i m σ' H' ⟨rfl, hle, ρ', s', k'⟩
  have toJ : ∀ {ρ'' : Store} {σ'' : L2.St} {H'' : Hp}, SR Γ P f σ'' ρ'' (Rj ++ T) H'' → RS Γ f.c (Rj ++ (slotsR σ'' ρ'' ++ T)) H'' := fun q => q.rs.perm (List.perm_append_comm_assoc _ _ _)
  by_cases hi' : i < ds.length
  · obtain ⟨d, hd⟩ := get_of_lt hi'
    have hdrop : ds.drop i = d :: ds.drop (i + 1) := by
      rw [List.drop_eq_getElem_cons hi']
      rw [List.getElem?_eq_getElem hi'] at hd
      cases hd
      rfl
    rw [hdrop] at k'
    unfold forD at k'
    split at k'
    · rename_i ρa ea
      refine .inr ⟨it.go f.c _ i H' (toJ s') hi', fun σ'' H'' => ∃ ρ'', SR Γ P f σ'' ρ'' (Rj ++ T) H'' ∧ GoodS Γ P W f T D (forD a g (ds.drop (i + 1)) ρ''), fun σ'' H'' ⟨ρ'', q1, q2⟩ => ⟨ds.length - (i + 1), by omega, rfl, hi', ρ'', q1, q2⟩, fun x H'' y => ?_⟩
      have sy : SR Γ P f σ' ρ' ((x, .sh d) :: (Rj ++ T)) H'' := ⟨s'.ok, s'.fix, (it.yld f.c _ i d x H' H'' (toJ s') hd y).perm (((List.perm_append_comm_assoc _ _ _).cons _).trans List.perm_middle.symm)⟩
      refine hg f σ' ρ' _ H'' x d ρa _ sy ea fun σ2 H2 _ s2 => hb f σ2 ρa _ H2 _ s2 ?_
      cases e : g ρa with
      | nx ρb =>
        rw [e] at k'
        exact fun σ3 H3 s3 => ⟨ρb, s3, k'⟩
      | ct ρb =>
        rw [e] at k'
        exact fun σ3 H3 s3 => ⟨ρb, s3, k'⟩
      | brk ρb =>
        rw [e] at k'
        exact fun σ3 H3 s3 => k' σ3 H3 s3.dropL
      | ret o ρb =>
        rw [e] at k'
        exact fun σ3 v H3 s3 => k' σ3 v H3 (s3.permT (T' := Rj ++ (v, o) :: T) List.perm_middle.symm).dropL
      | exc x ρb =>
        rw [e] at k'
        exact fun σ3 cls dd H3 q => k' σ3 cls dd H3 q.dropL
      | stuck => rw [e] at k'; exact k'.elim
    · exact k'.elim
  · have hil : i = ds.length := by omega
    subst hil
    rw [List.drop_length] at k'
    exact .inl ⟨it.stop f.c _ H' (toJ s'), k' σ' H' s'.dropL⟩
theorem ss_while (h1 : Sxt Γ P W tt p) (h2 : Ss Γ P W t g) : Ss Γ P W (tWhile tt t) (sWhile p g) := fun f σ ρ T H D s k => by
  have hns : sWhile p g ρ ≠ .stuck := fun e => by rw [e] at k; exact k
  obtain ⟨n, hn, en⟩ := sWhile_ex hns
  rw [en] at k
  refine ⟨fun m σ H => ∃ ρ, SR Γ P f σ ρ T H ∧ GoodS Γ P W f T D (wl p g m ρ), ⟨n, ρ, s, k⟩, ?_⟩
  rintro m σ' H' ⟨ρ', s', k'⟩
  cases m with
  | zero => exact k'.elim
  | succ m =>
    rw [wl] at k'
    refine h1 f σ' ρ' T H' _ s' ((GoodS.bind k').imp fun c ρ1 k1 H1 s1 => ?_)
    cases c with
    | false => exact iteF (k1 σ' H1 s1)
    | true =>
      rw [if_pos rfl] at k1
      refine iteT ⟨fun σ'' H'' => ∃ ρ, SR Γ P f σ'' ρ T H'' ∧ GoodS Γ P W f T D (wl p g m ρ), fun σ'' H'' q => ⟨m, Nat.lt_succ_self _, q⟩, h2 f σ' ρ1 T H1 _ s1 ?_⟩
      cases e : g ρ1 with
      | nx ρb =>
        rw [e] at k1
        exact fun σ3 H3 s3 => ⟨ρb, s3, k1⟩
      | ct ρb =>
        rw [e] at k1
        exact fun σ3 H3 s3 => ⟨ρb, s3, k1⟩
      | brk ρb => rw [e] at k1; exact k1
      | ret o ρb => rw [e] at k1; exact k1
      | exc x ρb => rw [e] at k1; exact k1
      | stuck => rw [e] at k1; exact k1
end
end Den
end
section
/-! Den, part M: comprehensions of two clauses; statements as they stand in a text; the rule for a def. -/
namespace Den
open PySem L2 PySem.Spec PyProof.Rows
def lc2L (vs vs1 : List Nat) (tg : aG) (tt : aT) (src1 : aI) (tg1 : aG) (tt1 : aT) (ge : aE) : List D → Store → Res (List D)
  | [], ρ => .ok [] ρ
  | d :: ds, ρ => match tg d ρ with
    | some ρ1 => (tt ρ1).bind fun b ρ2 => if b = true then (src1 ρ2).bind fun ds1 ρ3 => (lcL vs1 tg1 tt1 ge ds1 (wipeS ρ3 vs1)).bind fun r ρ4 => (lc2L vs vs1 tg tt src1 tg1 tt1 ge ds (wipeS ρ4 vs)).bind fun r' ρ5 => .ok (r ++ r') ρ5
      else lc2L vs vs1 tg tt src1 tg1 tt1 ge ds (wipeS ρ2 vs)
    | none => .stuck
def aLc2 (src : aI) (vs vs1 : List Nat) (tg : aG) (tt : aT) (src1 : aI) (tg1 : aG) (tt1 : aT) (ge : aE) : aE := fun ρ => (src ρ).bind fun ds ρ1 => match lc2L vs vs1 tg tt src1 tg1 tt1 ge ds (wipeS ρ1 vs) with
    | .ok r ρ2 => if r.length ≤ 16000000 then .ok (.lst (r.map O.sh)) (restS ρ1 vs ρ2) else .stuck
    | _ => .stuck
theorem wipe_sub {σ : L2.St} {vs vs1 : List Nat} (h : ∀ i ∈ vs1, i ∈ vs) : wipe (wipe σ vs1) vs = wipe σ vs := by
  apply List.ext_getElem?
  intro j
  rw [wipe_get, wipe_get, wipe_get]
  by_cases hj : j ∈ vs
  · rw [if_pos hj, if_pos hj]
    by_cases hk : j ∈ vs1
    · rw [if_pos hk]
      cases σ[j]? <;> rfl
    · rw [if_neg hk]
  · rw [if_neg hj, if_neg hj, if_neg fun k => hj (h j k)]
section
variable {Γ : Gb} {P : Nat → Bool} {W : WX} {vs vs1 : List Nat}
theorem SR.again0 {P : Nat → Bool} {f : Fr} {σ σ0 : L2.St} {ρ : Store} {T : List (V × O)} {H : Hp} {ws : List Nat} (s : SR Γ P f σ ρ T H) (hp : ∀ j, P j = true → j ∉ ws) (hw : wipe σ ws = wipe σ0 ws) : SR Γ P f (wipe σ0 ws) (wipeS ρ ws) T H := by
  have s' := s.clears ws
  rw [← hw]
  refine s'.resig (wipe_length σ ws) (fun i o e => ?_) fun j hj => ?_
  · rw [wipe_get, if_neg fun m => wipeS_get m o e]
  · rw [wipe_get, if_neg (hp j hj)]
    exact s.fix j hj
theorem permK {α : Type} (S A X R T : List α) : (S ++ (A ++ (R ++ (X ++ T)))).Perm (R ++ (S ++ (A ++ (X ++ T)))) := by
  classical
  refine List.perm_iff_count.mpr fun a => ?_
  simp only [List.count_append]
  omega
theorem permI {α : Type} (x d : α) (S R T : List α) : (x :: (R ++ (S ++ ([d] ++ T)))).Perm (S ++ (x :: (R ++ (d :: T)))) := by
  classical
  refine List.perm_iff_count.mpr fun a => ?_
  simp only [List.count_append, List.count_cons, List.count_nil]
  omega
theorem sx_lc2 {wi wi1 : TI} {g g1 : TG} {tt tt1 : TT} {te : TE} {src src1 : aI} {tg tg1 : aG} {at_ at1 : aT} {ge : aE} (hv : ∀ i ∈ vs1, i ∈ vs) (hi : Sxi Γ P W wi src) (hg : Sg Γ (offP P vs) vs g tg) (ht : Sxt Γ (offP P vs) W0 tt at_)
    (hi1 : Sxi Γ (offP P vs) W0 wi1 src1) (hg1 : Sg Γ (offP P vs) vs1 g1 tg1) (ht1 : Sxt Γ (offP P vs) W0 tt1 at1) (he : Sx Γ (offP P vs) W0 te ge) :
    Sx Γ P W (tLc2 wi g tt wi1 g1 tt1 te vs vs1) (aLc2 src vs vs1 tg at_ src1 tg1 at1 ge) := fun f σ ρ T H Q s k => by
  have off : ∀ j, offP P vs j = true → j ∉ vs := fun j h => (offP_of h).2
  have off1 : ∀ j, offP P vs j = true → j ∉ vs1 := fun j h m => (offP_of h).2 (hv j m)
  refine hi f σ ρ T H _ s ((Good.bind k).imp fun ds ρ1 k J Rj H1 it s1 D1 hD => ?_)
  split at k
  · rename_i r ρ2 er
    split at k
    · rename_i hlen
      obtain ⟨X, sx, rest⟩ := s1.outs vs
      have b0 := sx.block (vs := vs) fun i m o => wipeS_get m o
      have b1 : SR Γ (offP P vs) f (wipe σ vs) (wipeS ρ1 vs) ((.ref D1, .lst (([] : List D).map O.sh)) :: (X ++ (Rj ++ T))) (upd H1 D1 (.lst [])) :=
        b0.mapT fun R q => RS.newL (rs := []) q hD
      refine ⟨fun i m H' => m = ds.length - i ∧ i ≤ ds.length ∧ ∃ ρ' acc r', lc2L vs vs1 tg at_ src1 tg1 at1 ge (ds.drop i) ρ' = .ok r' ρ2 ∧ acc ++ r' = r ∧ (∀ i ∈ vs, ∀ o, ρ'[i]? ≠ some (some o)) ∧
        SR Γ (offP P vs) f (wipe σ vs) ρ' ((.ref D1, .lst (acc.map O.sh)) :: (X ++ (Rj ++ T))) H', ⟨ds.length, by simp, Nat.zero_le _, wipeS ρ1 vs, [], r, by rw [List.drop_zero]; exact er, rfl, fun i m o => wipeS_get m o, b1⟩, ?_⟩
      rintro i m H' ⟨rfl, hle, ρ', acc, r', el, er', hw, s'⟩
      have toJ : ∀ {ρ'' : Store} {σ'' : L2.St} {H'' : Hp} {T1 : List (V × O)}, SR Γ (offP P vs) f σ'' ρ'' (T1 ++ (X ++ (Rj ++ T))) H'' → RS Γ f.c (Rj ++ (slotsR σ'' ρ'' ++ (T1 ++ (X ++ T)))) H'' := fun q => q.rs.perm (permJ _ _ _ _ _)
      by_cases hi' : i < ds.length
      · obtain ⟨d, hd⟩ := get_of_lt hi'
        have hdrop : ds.drop i = d :: ds.drop (i + 1) := by
          rw [List.drop_eq_getElem_cons hi']
          rw [List.getElem?_eq_getElem hi'] at hd
          cases hd
          rfl
        rw [hdrop] at el
        unfold lc2L at el
        split at el
        · rename_i ρa ea
          obtain ⟨b, ρb, eb, el⟩ := res_bind_ok el
          refine .inr ⟨it.go f.c _ i H' (toJ (T1 := [(V.ref D1, O.lst (acc.map O.sh))]) s') hi', fun H'' => ∃ ρ'' acc' r'', lc2L vs vs1 tg at_ src1 tg1 at1 ge (ds.drop (i + 1)) ρ'' = .ok r'' ρ2 ∧ acc' ++ r'' = r ∧ (∀ i ∈ vs, ∀ o, ρ''[i]? ≠ some (some o)) ∧
            SR Γ (offP P vs) f (wipe σ vs) ρ'' ((.ref D1, .lst (acc'.map O.sh)) :: (X ++ (Rj ++ T))) H'', fun H'' ⟨ρ'', acc', r'', q2, q3, q4, q5⟩ => ⟨ds.length - (i + 1), by omega, rfl, hi', ρ'', acc', r'', q2, q3, q4, q5⟩, fun x H'' y => ?_⟩
          have sy : SR Γ (offP P vs) f (wipe σ vs) ρ' ((x, .sh d) :: (.ref D1, .lst (acc.map O.sh)) :: (X ++ (Rj ++ T))) H'' :=
            ⟨s'.ok, s'.fix, (it.yld f.c _ i d x H' H'' (toJ (T1 := [(V.ref D1, O.lst (acc.map O.sh))]) s') hd y).perm (permY _ _ _ _ _ _)⟩
          refine hg f _ ρ' _ H'' x d ρa _ sy ea fun σ2 H2 w2 s2 => ⟨w2.trans wipe_wipe, ht f σ2 ρa _ H2 _ s2 ?_⟩
          rw [eb]
          intro H3 s3
          cases b with
          | true =>
            refine iteT ?_
            rw [if_pos rfl] at el
            obtain ⟨ds1, ρc, ec, el⟩ := res_bind_ok el
            obtain ⟨r1, ρd, ed, el⟩ := res_bind_ok el
            obtain ⟨r2, ρe, ee, el⟩ := res_bind_ok el
            cases el
            refine hi1 f σ2 ρb _ H3 _ s3 ?_
            rw [ec]
            intro J1 Rj1 H4 it1 s4
            -- the inner block
            have c0 : SR Γ (offP P vs) f (wipe σ2 vs1) (wipeS ρc vs1) (Rj1 ++ ((.ref D1, .lst (acc.map O.sh)) :: (X ++ (Rj ++ T)))) H4 := s4.again0 off1 rfl
            refine ⟨fun j m H' => m = ds1.length - j ∧ j ≤ ds1.length ∧ ∃ ρ' acc' r', lcL vs1 tg1 at1 ge (ds1.drop j) ρ' = .ok r' ρd ∧ acc' ++ (r' ++ r2) = r ∧
              SR Γ (offP P vs) f (wipe σ2 vs1) ρ' (Rj1 ++ ((.ref D1, .lst (acc'.map O.sh)) :: (X ++ (Rj ++ T)))) H', ⟨ds1.length, by simp, Nat.zero_le _, wipeS ρc vs1, acc, r1, by rw [List.drop_zero]; exact ed, er', c0⟩, ?_⟩
            rintro j m H5 ⟨rfl, hle1, ρj, acc1, rj, elj, erj, s5⟩
            have toJ1 : ∀ {ρ'' : Store} {σ'' : L2.St} {H'' : Hp} {T1 : List (V × O)}, SR Γ (offP P vs) f σ'' ρ'' (Rj1 ++ T1) H'' → RS Γ f.c (Rj1 ++ (slotsR σ'' ρ'' ++ T1)) H'' := fun q => q.rs.perm (List.perm_append_comm_assoc _ _ _)
            by_cases hj' : j < ds1.length
            · obtain ⟨d1, hd1⟩ := get_of_lt hj'
              have hdrop1 : ds1.drop j = d1 :: ds1.drop (j + 1) := by
                rw [List.drop_eq_getElem_cons hj']
                rw [List.getElem?_eq_getElem hj'] at hd1
                cases hd1
                rfl
              rw [hdrop1] at elj
              unfold lcL at elj
              split at elj
              · rename_i ρja eja
                obtain ⟨b, ρjb, ejb, elj⟩ := res_bind_ok elj
                refine .inr ⟨it1.go f.c _ j H5 (toJ1 s5) hj', fun H'' => ∃ ρ'' acc' r'', lcL vs1 tg1 at1 ge (ds1.drop (j + 1)) ρ'' = .ok r'' ρd ∧ acc' ++ (r'' ++ r2) = r ∧
                  SR Γ (offP P vs) f (wipe σ2 vs1) ρ'' (Rj1 ++ ((.ref D1, .lst (acc'.map O.sh)) :: (X ++ (Rj ++ T)))) H'', fun H'' ⟨ρ'', acc', r'', q2, q3, q5⟩ => ⟨ds1.length - (j + 1), by omega, rfl, hj', ρ'', acc', r'', q2, q3, q5⟩, fun x1 H6 y1 => ?_⟩
                have sy1 : SR Γ (offP P vs) f (wipe σ2 vs1) ρj ((x1, .sh d1) :: (Rj1 ++ ((.ref D1, .lst (acc1.map O.sh)) :: (X ++ (Rj ++ T))))) H6 :=
                  ⟨s5.ok, s5.fix, (it1.yld f.c _ j d1 x1 H5 H6 (toJ1 s5) hd1 y1).perm (permI _ _ _ _ _)⟩
                refine hg1 f _ ρj _ H6 x1 d1 ρja _ sy1 eja fun σ7 H7 w7 s7 => ⟨w7.trans wipe_wipe, ht1 f σ7 ρja _ H7 _ s7 ?_⟩
                rw [ejb]
                intro H8 s8
                cases b with
                | true =>
                  refine iteT ?_
                  rw [if_pos rfl] at elj
                  obtain ⟨o, ρjc, ejc, elj⟩ := res_bind_ok elj
                  obtain ⟨r'', ρjd, ejd, elj⟩ := res_bind_ok elj
                  cases elj
                  refine he f σ7 ρjb _ H8 _ s8 ?_
                  rw [ejc]
                  intro y H9 s9
                  obtain ⟨us, hus, hul, s10⟩ := SR.push (T := Rj1 ++ (X ++ (Rj ++ T))) (s9.permT (T' := (y, o) :: (.ref D1, .lst (acc1.map O.sh)) :: (Rj1 ++ (X ++ (Rj ++ T)))) (List.perm_middle.cons _))
                  refine ⟨us, hus, lt_line ?_, wipeS ρjc vs1, acc1 ++ [fz o], r'', ejd, by rw [← erj]; simp, ?_⟩
                  · rw [hul]
                    have := congrArg List.length erj
                    simp only [List.length_append, List.length_cons] at this
                    omega
                  · exact (s10.again0 off1 (w7.trans wipe_wipe)).permT List.perm_middle.symm
                | false =>
                  refine iteF ?_
                  rw [if_neg (by simp)] at elj
                  exact ⟨wipeS ρjb vs1, acc1, rj, elj, erj, s8.again0 off1 (w7.trans wipe_wipe)⟩
              · cases elj
            · have hjl : j = ds1.length := by omega
              subst hjl
              rw [List.drop_length] at elj
              cases elj
              refine .inl ⟨it1.stop f.c _ H5 (toJ1 s5), wipeS ρd vs, acc1, r2, ee, by rw [← erj]; rfl, fun i m o => wipeS_get m o, ?_⟩
              have q := s5.again0 (σ0 := σ) off ((wipe_sub hv).trans (w2.trans wipe_wipe))
              exact q.dropL
          | false =>
            refine iteF ?_
            rw [if_neg (by simp)] at el
            exact ⟨wipeS ρb vs, acc, r', el, er', fun i m o => wipeS_get m o, s3.again (w2.trans wipe_wipe)⟩
        · cases el
      · have hil : i = ds.length := by omega
        subst hil
        rw [List.drop_length] at el
        cases el
        rw [List.append_nil] at er'
        subst er'
        refine .inl ⟨it.stop f.c _ H' (toJ (T1 := [(V.ref D1, O.lst (acc.map O.sh))]) s'), k _ _ ?_⟩
        have u := (s'.unblock hw s.fix).permT (T' := X ++ ((V.ref D1, O.lst (acc.map O.sh)) :: (Rj ++ T))) List.perm_middle.symm
        have v := (rest _ _ _ u).permT (T' := Rj ++ ((V.ref D1, O.lst (acc.map O.sh)) :: T)) List.perm_middle.symm
        exact v.dropL
    · exact k.elim
  · exact k.elim
end
end Den
end
section
/-! Den, part N: statements as they stand in a text, calls, comprehensions; the rule for a def. -/
namespace Den
open PySem L2 PySem.Spec PyProof.Rows
structure AG (X : Cx) (Γ : Gb) (P : Nat → Bool) (vs : List Nat) (target : Expr) (t : TG) (a : aG) : Prop where
  pg : PG X target t
  sg : Sg Γ P vs t a
structure AGs (X : Cx) (Γ : Gb) (P : Nat → Bool) (vs : List Nat) (ts : List Expr) (t : TGs) (as : List aG) : Prop where
  pgs : PGs X ts t
  sgs : Sgs Γ P vs t as
structure AS (X : Cx) (Γ : Gb) (P : Nat → Bool) (W : WX) (st : Stmt) (t : TS) (g : aS) : Prop where
  ps : PS X st t
  sx : Ss Γ P W t g
structure AL (X : Cx) (Γ : Gb) (P : Nat → Bool) (W : WX) (sts : List Stmt) (t : TS) (g : aS) : Prop where
  pss : PSs X sts t
  sx : Ss Γ P W t g
/-- (a, b, ..) = a tuple or a list of that length -/
def aUnp (as : List aG) : aG := fun d ρ => match d with
  | .tup ds => aGs as ds ρ
  | .lst ds => aGs as ds ρ
  | _ => none
def gUnpT (K : PySem.W.Frag) (n : Nat) (t : TGs) : TG := fun v σ H Q => L2.gTup K n t v σ H Q ∨ gUnl K n t v σ H Q
section
variable {X : Cx} {Γ : Gb} {P : Nat → Bool} {W : WX} {vs : List Nat} {t u : TS} {g h : aS} {te ta tb : TE} {ge gf : aE} {tt : TT} {p : aT} {tg : TG} {tgs : TGs} {a : aG} {as : List aG} {e : Expr} {es : List Expr} {st : Stmt} {rest sa sb : List Stmt} {pos : Pos}
theorem ag_name (i : Nat) {x : Str} (hN : X.N.Nodup) (hi : X.N[i]? = some x := by rfl) (hx : Loc X.env.scope x := by first | exact .inl rfl | exact .inr rfl) (hp : P i = false := by rfl) (hv : i ∈ vs := by decide)
    (hf : X.fn x = true ∨ X.env.scope.names.lookup x = some .local := by first | exact .inl rfl | exact .inr rfl) : AG X Γ P vs (.Name x pos) (gName i) (aN i) := ⟨pg_name hN hi hx hf, sg_name hp hv⟩
theorem ags_nil : AGs X Γ P vs [] gNil [] := ⟨pgs_nil, sgs_nil⟩
theorem ags_cons (h1 : AG X Γ P vs e tg a) (h2 : AGs X Γ P vs es tgs as) (hs : (assignEach (e :: es) X.env).map (·.2) = assign e X.env :: (assignEach es X.env).map (·.2) := by rfl) : AGs X Γ P vs (e :: es) (gCons tg tgs) (a :: as) :=
  ⟨pgs_cons h1.pg h2.pgs hs, sgs_cons h1.sg h2.sgs⟩
theorem ag_tup {k n : Nat} (hK : X.K = Γ.K) (h : AGs X Γ P vs es tgs as) (hc : X.calm = true := by rfl) (hn : (assignEach es X.env).length = n := by rfl) (hn2 : as.length = n := by rfl) (hst : (assignEach es X.env).findIdx? (·.1) = none := by rfl) :
    AG X Γ P vs (.Tuple es k pos) (L2.gTup Γ.K n tgs) (aTupG as) := ⟨hK ▸ pg_tup hc h.pgs hn hst, sg_tup h.sgs hn2⟩
theorem PG.or {target : Expr} {t1 t2 : TG} (h1 : PG X target t1) (h2 : PG X target t2) : PG X target fun v σ H Q => t1 v σ H Q ∨ t2 v σ H Q :=
  ⟨fun pins s σ H v u Q I r h => h.elim (fun q => h1.run pins s σ H v u Q I r q) fun q => h2.run pins s σ H v u Q I r q⟩
theorem sg_unp {n : Nat} {gs : TGs} (h : Sgs Γ P vs gs as) (hn : as.length = n) : Sg Γ P vs (gUnpT Γ.K n gs) (aUnp as) := fun f σ ρ T H v d ρ' Q s e k => by
  unfold aUnp at e
  split at e
  · exact .inl (sg_tup h hn f σ ρ T H v _ ρ' Q s e k)
  · rename_i ds
    refine .inr ?_
    obtain ⟨a, xs, rfl, p, q⟩ := RS.lst (v := v) (o := .sh (.lst ds)) s.rs (by simp) rfl
    refine ⟨a, xs, rfl, .of p, by rw [q.len, aGs_len e, hn], h f σ ρ T H xs ds ρ' Q ?_ q.len e k⟩
    obtain ⟨S, sb, r, _, ad⟩ := q.ex
    have z := ad xs ds r
    refine ⟨s.ok, s.fix, ?_⟩
    have pm : (xs.zip (ds.map O.sh) ++ (slotsR σ ρ ++ (V.ref a, O.sh (.lst ds)) :: T)).Perm ((V.ref a, O.sh (.lst ds)) :: (slotsR σ ρ ++ (xs.zip (ds.map O.sh) ++ T))) := by
      refine (List.perm_append_comm_assoc _ _ _).trans ?_
      refine (List.Perm.append_left _ List.perm_middle).trans ?_
      exact List.perm_middle
    exact (z.perm pm).drop
  · cases e
theorem ag_unp {k n : Nat} (hK : X.K = Γ.K) (h : AGs X Γ P vs es tgs as) (hc : X.calm = true := by rfl) (hn : (assignEach es X.env).length = n := by rfl) (hn2 : as.length = n := by rfl) (hst : (assignEach es X.env).findIdx? (·.1) = none := by rfl) :
    AG X Γ P vs (.Tuple es k pos) (gUnpT Γ.K n tgs) (aUnp as) := ⟨hK ▸ PG.or (pg_tup hc h.pgs hn hst) (pg_unl hc h.pgs hn hst), sg_unp h.sgs hn2⟩
/-! statements -/
theorem al_nil : AL X Γ P W [] tNext sNext := ⟨pss_nil, ss_next⟩
theorem al_one (h1 : AS X Γ P W st t g) : AL X Γ P W [st] t g := ⟨pss_one h1.ps, h1.sx⟩
theorem al_cons (h1 : AS X Γ P W st t g) (h2 : AL X Γ P W rest u h) : AL X Γ P W (st :: rest) (tSeq t u) (sSeq g h) := ⟨pss_cons h1.ps h2.pss, ss_seq h1.sx h2.sx⟩
theorem as_pass : AS X Γ P W (.Pass pos) tNext sNext := ⟨ps_pass, ss_next⟩
theorem as_brk : AS X Γ P W (.Break pos) tBreak sBrk := ⟨ps_break, ss_brk⟩
theorem as_ct : AS X Γ P W (.Continue pos) tCont sCt := ⟨ps_continue, ss_ct⟩
theorem as_doc {x j pos pos'} : AS X Γ P W (.Expr (.Constant (.str x) j pos) pos') tNext sNext := ⟨ps_doc, ss_next⟩
theorem as_expr (he : AE X Γ P W e te ge) (hs : swapsWith e none pos.line X.env = pure false := by rfl) : AS X Γ P W (.Expr e pos) (tDrop te) (sDrop ge) := ⟨ps_expr he.pe hs, ss_drop he.sx⟩
theorem as_ret (he : AE X Γ P W e te ge) : AS X Γ P W (.Return (some e) pos) (tRet te) (sRet ge) := ⟨ps_ret he.pe, ss_ret he.sx⟩
theorem as_retN : AS X Γ P W (.Return none pos) tRetN sRetN := ⟨ps_retN, ss_retN⟩
theorem as_if {c : Expr} (hc : AT X Γ P W c tt p) (ha : AL X Γ P W sa t g) (hb : AL X Γ P W sb u h) : AS X Γ P W (.If c sa sb pos) (tIfS tt t u) (sIf p g h) := ⟨ps_if hc.pt ha.pss hb.pss, ss_if hc.sx ha.sx hb.sx⟩
theorem as_set (i : Nat) {x : Str} {pos' : Pos} (hN : X.N.Nodup) (he : AE X Γ P W e te ge) (hi : X.N[i]? = some x := by rfl) (hx : Loc X.env.scope x := by first | exact .inl rfl | exact .inr rfl) (hp : P i = false := by rfl)
    (hs : swapsWith e (some (.Name x pos')) pos.line X.env = pure false := by rfl) (hf : X.fn x = true ∨ X.env.scope.names.lookup x = some .local := by first | exact .inl rfl | exact .inr rfl) :
    AS X Γ P W (.Assign [.Name x pos'] e pos) (tAsg te (gName i)) (sSet i ge) := ⟨ps_set hN hi hx he.pe hs hf, ss_set hp he.sx⟩
theorem as_asg {tge : Expr} (he : AE X Γ P W e te ge) (hg : AG X Γ P vs tge tg a) (hs : swapsWithSole [tge] e pos.line X.env = pure false := by rfl) (hw : swappedStores [tge] e X.env = pure none := by rfl)
    (h1 : (assignEach [tge] X.env).map (·.2) = [assign tge X.env] := by rfl) : AS X Γ P W (.Assign [tge] e pos) (tAsg te tg) (sAsg ge a) := ⟨ps_asg he.pe hg.pg hs hw h1, ss_asg he.sx hg.sg⟩
theorem as_par (i j : Nat) {x y : Str} {a b : Expr} {px py pt : Pos} {kt k2 pt2} (hN : X.N.Nodup) (ha : AE X Γ P W a ta ge) (hb : AE X Γ P W b tb gf) (hi : X.N[i]? = some x := by rfl) (hj : X.N[j]? = some y := by rfl) (hij : i ≠ j := by decide)
    (hx : X.env.scope.names.lookup x = some .local := by rfl) (hy : X.env.scope.names.lookup y = some .local := by rfl) (hpi : P i = false := by rfl) (hpj : P j = false := by rfl)
    (hw : swappedStores [.Tuple [.Name x px, .Name y py] kt pt] (.Tuple [a, b] k2 pt2) X.env = pure (some [x, y]) := by rfl)
    (hs : swapsWithSole [.Tuple [.Name x px, .Name y py] kt pt] (.Tuple [a, b] k2 pt2) pos.line X.env = pure false := by rfl) (hc : X.calm = true := by rfl)
    (hs1 : starEach (a :: [b]) X.env = (false, eval a X.env) :: starEach [b] X.env := by rfl) (hs2 : starEach (b :: []) X.env = (false, eval b X.env) :: starEach [] X.env := by rfl) :
    AS X Γ P W (.Assign [.Tuple [.Name x px, .Name y py] kt pt] (.Tuple [a, b] k2 pt2) pos) (tPar i j (tCons ta (tCons tb tNil))) (sPar i j ge gf) :=
  ⟨ps_par hc hN hi hj hij hx hy (pa_cons ha.pe (pa_cons hb.pe pa_nil hs2) hs1) hw hs, ss_par hpi hpj ha.sx hb.sx⟩
theorem as_aug (i : Nat) {x : Str} {op : Operator} {ti : TIp} {r : O → O → Option O} {pos' : Pos} (hN : X.N.Nodup) (ok : Op2 Γ ti r) (ho : PIp X op ti) (he : AE X Γ P W e te ge) (hi : X.N[i]? = some x := by rfl) (hx : Loc X.env.scope x := by first | exact .inl rfl | exact .inr rfl) (hp : P i = false := by rfl)
    (hf : X.fn x = true ∨ X.env.scope.names.lookup x = some .local := by first | exact .inl rfl | exact .inr rfl) :
    AS X Γ P W (.AugAssign (.Name x pos') op e pos) (tAug i te ti) (sAug i ge r) := ⟨ps_aug hN hi hx he.pe ho hf, ss_aug hp he.sx ok⟩
theorem as_for {iter : Expr} {wi : TI} {src : aI} {tge : Expr} (hp : PassesOwn (model X.prog X.w) X.A X.env X.xe) (hi : AI X Γ P W tge iter wi src) (hg : AG X Γ P vs tge tg a) (hb : AL X Γ P W sa t g) (hc : X.calm = true := by rfl)
    (hs : ∀ x, foldedSetIterable iter X.env x = pure x := by intro _; rfl) : AS X Γ P W (.For tge iter sa [] pos) (tFor wi tg t) (sFor src a g) := ⟨ps_for hp hc hi.pi hg.pg hb.pss hs, ss_for hi.sx hg.sg hb.sx⟩
theorem as_while {c : Expr} (hp : PassesOwn (model X.prog X.w) X.A X.env X.xe) (hc : AT X Γ P W c tt p) (hb : AL X Γ P W sa t g) : AS X Γ P W (.While c sa [] pos) (tWhile tt t) (sWhile p g) := ⟨ps_while hp hc.pt hb.pss, ss_while hc.sx hb.sx⟩
/-! ints, augmented -/
def gAddI : O → O → Option O
  | .sh (.int i), .sh (.int j) => some (.sh (.int (i + j)))
  | _, _ => none
def gSubI : O → O → Option O
  | .sh (.int i), .sh (.int j) => some (.sh (.int (i - j)))
  | _, _ => none
theorem ok_addI : Op2 Γ (ipI fun i j => i + j) gAddI := by
  intro c R H x ox y oy w Q h m1 m2 e k
  unfold gAddI at e
  split at e
  · cases e
    exact ⟨_, _, h.int m1, h.int m2, k _ _ (h.pure fun _ => .int _)⟩
  · cases e
theorem ok_subI : Op2 Γ (ipI fun i j => i - j) gSubI := by
  intro c R H x ox y oy w Q h m1 m2 e k
  unfold gSubI at e
  split at e
  · cases e
    exact ⟨_, _, h.int m1, h.int m2, k _ _ (h.pure fun _ => .int _)⟩
  · cases e
end
/-! ### comprehensions in a text -/
structure APt (X : Cx) (Γ : Gb) (P : Nat → Bool) (W : WX) (ifs : List Expr) (tt : TT) (g : aT) : Prop where
  pts : PTs X ifs tt
  sx : Sxt Γ P W tt g
section
variable {X : Cx} {Γ : Gb} {P : Nat → Bool} {W : WX}
theorem apt_nil : APt X Γ P W [] tYes aYes := ⟨pts_nil, sxt_yes⟩
theorem apt_one {c : Expr} {tt : TT} {p : aT} (h : AT X Γ P W c tt p) : APt X Γ P W [c] tt p := ⟨pts_one h.pt, h.sx⟩
section
variable {elt tg iter : Expr} {ifs : List Expr} {scope : Scope} {pos spos : Pos} {wi : TI} {g : TG} {tt : TT} {te : TE} {src : aI} {a : aG} {p : aT} {ge : aE}
theorem ae_lc (own : List (Str × Nat)) (hN : X.N.Nodup) (hi : AI X Γ P W tg iter wi src) (hg : ∀ (s : Shared) (H : Hp) (C : Addr) (cl : List (Str × Addr)) (fp : List Addr), AG (X.blk s H scope (compEnvC scope cl C X.env) fp) Γ (offP P (own.map (·.2))) (own.map (·.2)) tg g a)
    (ht : ∀ (s : Shared) (H : Hp) (C : Addr) (cl : List (Str × Addr)) (fp : List Addr), APt (X.blk s H scope (compEnvC scope cl C X.env) fp) Γ (offP P (own.map (·.2))) W0 ifs tt p)
    (he : ∀ (s : Shared) (H : Hp) (C : Addr) (cl : List (Str × Addr)) (fp : List Addr), AE (X.blk s H scope (compEnvC scope cl C X.env) fp) Γ (offP P (own.map (·.2))) W0 elt te ge) (ok : blkC X.N X.env.scope scope own = true := by first | rfl | kernel_rfl) (hc : X.calm = true := by rfl)
    (hs : ∀ x, foldedSetIterable iter X.env x = pure x := by intro _; rfl) : AE X Γ P W (.ListComp elt [⟨tg, iter, ifs, 0⟩] scope pos) (tLc wi g tt te (own.map (·.2))) (aLc src (own.map (·.2)) a p ge) :=
  ⟨pe_lc hc hN hi.pi (blkOk_by ok) (fun s H C cl fp => (hg s H C cl fp).pg) (fun s H C cl fp => (ht s H C cl fp).pts) (fun s H C cl fp => (he s H C cl fp).pe) hs,
    sx_lc hi.sx (hg X.s_0 X.H_0 0 [] []).sg (ht X.s_0 X.H_0 0 [] []).sx (he X.s_0 X.H_0 0 [] []).sx⟩
theorem as_setLc (i : Nat) {y : Str} {py : Pos} (own : List (Str × Nat)) (hN : X.N.Nodup) (hi : AI X Γ P W tg iter wi src) (hg : ∀ (s : Shared) (H : Hp) (C : Addr) (cl : List (Str × Addr)) (fp : List Addr), AG (X.blk s H scope (compEnvC scope cl C X.env) fp) Γ (offP P (own.map (·.2))) (own.map (·.2)) tg g a)
    (ht : ∀ (s : Shared) (H : Hp) (C : Addr) (cl : List (Str × Addr)) (fp : List Addr), APt (X.blk s H scope (compEnvC scope cl C X.env) fp) Γ (offP P (own.map (·.2))) W0 ifs tt p)
    (he : ∀ (s : Shared) (H : Hp) (C : Addr) (cl : List (Str × Addr)) (fp : List Addr), AE (X.blk s H scope (compEnvC scope cl C X.env) fp) Γ (offP P (own.map (·.2))) W0 elt te ge) (ok : blkC X.N X.env.scope scope own = true := by first | rfl | kernel_rfl) (hc : X.calm = true := by rfl)
    (hy : X.N[i]? = some y := by rfl) (hyl : X.env.scope.names.lookup y = some .local := by rfl) (hk : X.env.scope.kind = .function := by rfl) (hl : (py.line == pos.line) = true := by rfl) (hl2 : (py.line == spos.line) = true := by rfl)
    (ha : (scope.names.any fun (n, k) => n == y && (k == .local || k == .cell)) = false := by decide +kernel) (hpi : P i = false := by rfl) (hs : ∀ x, foldedSetIterable iter X.env x = pure x := by intro _; rfl)
    (hsw : swapsWith (.ListComp elt [⟨tg, iter, ifs, 0⟩] scope pos) (some (.Name y py)) spos.line X.env = pure true := by exact sw_true rfl rfl rfl (by decide +kernel)) :
    AS X Γ P W (.Assign [.Name y py] (.ListComp elt [⟨tg, iter, ifs, 0⟩] scope pos) spos) (tAsg (tLc wi g tt te (own.map (·.2))) (gName i)) (sSet i (aLc src (own.map (·.2)) a p ge)) :=
  ⟨ps_setLc hc hN hy hyl hsw hi.pi (blkOk_by ok) (fun s H C cl fp => (hg s H C cl fp).pg) (fun s H C cl fp => (ht s H C cl fp).pts) (fun s H C cl fp => (he s H C cl fp).pe) hs,
    ss_set hpi (sx_lc hi.sx (hg X.s_0 X.H_0 0 [] []).sg (ht X.s_0 X.H_0 0 [] []).sx (he X.s_0 X.H_0 0 [] []).sx)⟩
variable {tg1 iter1 : Expr} {ifs1 : List Expr} {wi1 : TI} {g1 : TG} {tt1 : TT} {src1 : aI} {a1 : aG} {p1 : aT}
theorem ae_lc2 (own : List (Str × Nat)) (vs1 : List Nat) (hN : X.N.Nodup) (hi : AI X Γ P W tg iter wi src) (hg : ∀ (s : Shared) (H : Hp) (C : Addr) (cl : List (Str × Addr)) (fp : List Addr), AG (X.blk s H scope (compEnvC scope cl C X.env) fp) Γ (offP P (own.map (·.2))) (own.map (·.2)) tg g a)
    (ht : ∀ (s : Shared) (H : Hp) (C : Addr) (cl : List (Str × Addr)) (fp : List Addr), APt (X.blk s H scope (compEnvC scope cl C X.env) fp) Γ (offP P (own.map (·.2))) W0 ifs tt p)
    (hi1 : ∀ (s : Shared) (H : Hp) (C : Addr) (cl : List (Str × Addr)) (fp : List Addr), AI (X.blk s H scope (compEnvC scope cl C X.env) fp) Γ (offP P (own.map (·.2))) W0 tg1 iter1 wi1 src1)
    (hg1 : ∀ (s : Shared) (H : Hp) (C : Addr) (cl : List (Str × Addr)) (fp : List Addr), AG (X.blk s H scope (compEnvC scope cl C X.env) fp) Γ (offP P (own.map (·.2))) vs1 tg1 g1 a1)
    (ht1 : ∀ (s : Shared) (H : Hp) (C : Addr) (cl : List (Str × Addr)) (fp : List Addr), APt (X.blk s H scope (compEnvC scope cl C X.env) fp) Γ (offP P (own.map (·.2))) W0 ifs1 tt1 p1)
    (he : ∀ (s : Shared) (H : Hp) (C : Addr) (cl : List (Str × Addr)) (fp : List Addr), AE (X.blk s H scope (compEnvC scope cl C X.env) fp) Γ (offP P (own.map (·.2))) W0 elt te ge) (hv : ∀ i ∈ vs1, i ∈ own.map (·.2) := by decide) (ok : blkC X.N X.env.scope scope own = true := by first | rfl | kernel_rfl) (hc : X.calm = true := by rfl)
    (hs : ∀ x, foldedSetIterable iter X.env x = pure x := by intro _; rfl) (hs1 : ∀ env x, foldedSetIterable iter1 env x = pure x := by intro _ _; rfl) :
    AE X Γ P W (.ListComp elt [⟨tg, iter, ifs, 0⟩, ⟨tg1, iter1, ifs1, 0⟩] scope pos) (tLc2 wi g tt wi1 g1 tt1 te (own.map (·.2)) vs1) (aLc2 src (own.map (·.2)) vs1 a p src1 a1 p1 ge) :=
  ⟨pe_lc2 hc hN hi.pi (blkOk_by ok) hv (fun s H C cl fp => (hg s H C cl fp).pg) (fun s H C cl fp => (ht s H C cl fp).pts) (fun s H C cl fp => (hi1 s H C cl fp).pi) (fun s H C cl fp => (hg1 s H C cl fp).pg) (fun s H C cl fp => (ht1 s H C cl fp).pts) (fun s H C cl fp => (he s H C cl fp).pe) hs hs1,
    sx_lc2 hv hi.sx (hg X.s_0 X.H_0 0 [] []).sg (ht X.s_0 X.H_0 0 [] []).sx (hi1 X.s_0 X.H_0 0 [] []).sx (hg1 X.s_0 X.H_0 0 [] []).sg (ht1 X.s_0 X.H_0 0 [] []).sx (he X.s_0 X.H_0 0 [] []).sx⟩
theorem as_setLc2 (i : Nat) {y : Str} {py : Pos} (own : List (Str × Nat)) (vs1 : List Nat) (hN : X.N.Nodup) (hi : AI X Γ P W tg iter wi src) (hg : ∀ (s : Shared) (H : Hp) (C : Addr) (cl : List (Str × Addr)) (fp : List Addr), AG (X.blk s H scope (compEnvC scope cl C X.env) fp) Γ (offP P (own.map (·.2))) (own.map (·.2)) tg g a)
    (ht : ∀ (s : Shared) (H : Hp) (C : Addr) (cl : List (Str × Addr)) (fp : List Addr), APt (X.blk s H scope (compEnvC scope cl C X.env) fp) Γ (offP P (own.map (·.2))) W0 ifs tt p)
    (hi1 : ∀ (s : Shared) (H : Hp) (C : Addr) (cl : List (Str × Addr)) (fp : List Addr), AI (X.blk s H scope (compEnvC scope cl C X.env) fp) Γ (offP P (own.map (·.2))) W0 tg1 iter1 wi1 src1)
    (hg1 : ∀ (s : Shared) (H : Hp) (C : Addr) (cl : List (Str × Addr)) (fp : List Addr), AG (X.blk s H scope (compEnvC scope cl C X.env) fp) Γ (offP P (own.map (·.2))) vs1 tg1 g1 a1)
    (ht1 : ∀ (s : Shared) (H : Hp) (C : Addr) (cl : List (Str × Addr)) (fp : List Addr), APt (X.blk s H scope (compEnvC scope cl C X.env) fp) Γ (offP P (own.map (·.2))) W0 ifs1 tt1 p1)
    (he : ∀ (s : Shared) (H : Hp) (C : Addr) (cl : List (Str × Addr)) (fp : List Addr), AE (X.blk s H scope (compEnvC scope cl C X.env) fp) Γ (offP P (own.map (·.2))) W0 elt te ge) (hv : ∀ i ∈ vs1, i ∈ own.map (·.2) := by decide) (ok : blkC X.N X.env.scope scope own = true := by first | rfl | kernel_rfl) (hc : X.calm = true := by rfl)
    (hy : X.N[i]? = some y := by rfl) (hyl : X.env.scope.names.lookup y = some .local := by rfl) (hpi : P i = false := by rfl)
    (hs : ∀ x, foldedSetIterable iter X.env x = pure x := by intro _; rfl) (hs1 : ∀ env x, foldedSetIterable iter1 env x = pure x := by intro _ _; rfl)
    (hsw : swapsWith (.ListComp elt [⟨tg, iter, ifs, 0⟩, ⟨tg1, iter1, ifs1, 0⟩] scope pos) (some (.Name y py)) spos.line X.env = pure true := by exact sw_true rfl rfl rfl (by decide +kernel)) :
    AS X Γ P W (.Assign [.Name y py] (.ListComp elt [⟨tg, iter, ifs, 0⟩, ⟨tg1, iter1, ifs1, 0⟩] scope pos) spos) (tAsg (tLc2 wi g tt wi1 g1 tt1 te (own.map (·.2)) vs1) (gName i)) (sSet i (aLc2 src (own.map (·.2)) vs1 a p src1 a1 p1 ge)) :=
  ⟨ps_setLc2 hc hN hy hyl hsw hi.pi (blkOk_by ok) hv (fun s H C cl fp => (hg s H C cl fp).pg) (fun s H C cl fp => (ht s H C cl fp).pts) (fun s H C cl fp => (hi1 s H C cl fp).pi) (fun s H C cl fp => (hg1 s H C cl fp).pg) (fun s H C cl fp => (ht1 s H C cl fp).pts) (fun s H C cl fp => (he s H C cl fp).pe) hs hs1,
    ss_set hpi (sx_lc2 hv hi.sx (hg X.s_0 X.H_0 0 [] []).sg (ht X.s_0 X.H_0 0 [] []).sx (hi1 X.s_0 X.H_0 0 [] []).sx (hg1 X.s_0 X.H_0 0 [] []).sg (ht1 X.s_0 X.H_0 0 [] []).sx (he X.s_0 X.H_0 0 [] []).sx)⟩
end
end
/-! ### calls in a text -/
def toV : D → V
  | .bl b => .bl b
  | .int i => .int i
  | .str x => .str x
  | _ => .non
/-- a def that may be called by its name -/
structure Cl (Γ : Gb) (mg : Str → Option Value) (base : Heap) (k : Nat) (x : Str) (n : Nat) (dds : List D) (den : aF) : Prop where
  ex : ∃ (f : Addr) (fd : FuncData) (ps : List Str) (ds : List Value), FnOk Γ.prog Γ.w Γ.K mg base (L2.CX Γ.prog Γ.w) k f fd ps (spD Γ n den) ∧ mg x = some (.ref f) ∧ PySem.W.keepIn Γ.K (.ref f) = true ∧ Binds Γ.K fd ps ds ∧ Vals (dds.map toV) ds ∧ ∀ S, RepL Γ S (dds.map toV) dds
section
variable {X : Cx} {Γ : Gb} {P : Nat → Bool} {W : WX} {e : Expr} {es : List Expr} {ta : TA} {ods : List Od} {k n : Nat} {x : Str} {dds : List D} {den : aF} {p pos : Pos}
theorem ae_call (hp : X.prog = Γ.prog) (hw : X.w = Γ.w) (hK : X.K = Γ.K) (C : Cl Γ X.mg X.base k x n dds den) (hr : Room k X.A) (tk : Takes X W) (ha : AA X Γ P W (e :: es) ta ods) (hg : Gl X x := by rfl) (hdb : (x == ("__debug__" : Str)) = false := by decide)
    (he : starEach (e :: es) X.env = (false, eval e X.env) :: starEach es X.env := by rfl) (hpl : (backTo pos (starEach es X.env)).any (·.1) = false := by rfl) :
    AE X Γ P W (.Call (.Name x p) (e :: es) [] pos) (tCallSD (spD Γ n den) (dds.map toV) (WE W) ta) (aCall n ods dds den) := by
  obtain ⟨f, fd, ps, ds, F, hm, hk, hb, hd, hdd⟩ := C.ex
  rw [← hp, ← hw, ← hK] at F
  exact ⟨pe_callSD F hr hg hm (hK ▸ hk) (hK ▸ hb) hd (fun σ => passAt tk σ) ha.pa hdb he hpl, sx_call ha.sa hdd⟩
end
/-! ### the rule for a def -/
/-- a parameter that is set anew is shared from the entry on -/
def pre : List Bool → List O → List O
  | b :: pb, o :: os => (if b = true then o else .sh (fz o)) :: pre pb os
  | _, _ => []
def keepT : List Bool → List V → List O → List (V × O)
  | b :: pb, v :: vs, o :: os => if b = true then keepT pb vs os else (v, .sh (fz o)) :: keepT pb vs os
  | _, _, _ => []
def outs : List Bool → List O → Store → Option (List O)
  | true :: pb, _ :: os, some o :: ρ => (outs pb os ρ).map (o :: ·)
  | false :: pb, o :: os, _ :: ρ => (outs pb os ρ).map (.sh (fz o) :: ·)
  | [], [], _ => some []
  | _, _, _ => none
def aDef (pb : List Bool) (m : Nat) (body : aS) : aF := fun os => if os.length = pb.length then match body ((pre pb os).map some ++ List.replicate (m - pb.length) none) with
    | .ret o ρ => match outs pb os ρ with
      | some os' => .ret o os'
      | none => .stuck
    | .nx ρ => match outs pb os ρ with
      | some os' => .ret (.sh .non) os'
      | none => .stuck
    | .exc x ρ => match outs pb os ρ with
      | some os' => .exc x os'
      | none => .stuck
    | _ => .stuck
  else .stuck
def kp (pb : List Bool) : Nat → Bool := fun j => pb.getD j false
section
variable {Γ : Gb}
theorem enter_ok {e : Ent} {H : Hp} : ∀ {pb : List Bool} {vs : List V} {os : List O} {R : List (V × O)}, vs.length = pb.length → os.length = pb.length → RS Γ e (vs.zip os ++ R) H → RS Γ e (vs.zip (pre pb os) ++ (keepT pb vs os ++ R)) H
  | [], [], [], R, _, _, h => h
  | b :: pb, v :: vs, o :: os, R, h1, h2, h => by
    have ih := fun R => enter_ok (R := R) (e := e) (H := H) (pb := pb) (vs := vs) (os := os) (by simpa using h1) (by simpa using h2)
    cases b with
    | true =>
      have h' : RS Γ e (vs.zip os ++ ((v, o) :: R)) H := h.perm List.perm_middle.symm
      refine (ih _ h').perm ?_
      show (vs.zip (pre pb os) ++ (keepT pb vs os ++ (v, o) :: R)).Perm ((v, o) :: (vs.zip (pre pb os) ++ (keepT pb vs os ++ R)))
      exact (List.Perm.append_left _ List.perm_middle).trans List.perm_middle
    | false =>
      have h1 : RS Γ e ((v, o) :: (vs.zip os ++ R)) H := h
      have h2 := h1.freeze
      have h3 := h2.dup List.mem_cons_self
      have h' : RS Γ e (vs.zip os ++ ((v, .sh (fz o)) :: (v, .sh (fz o)) :: R)) H := h3.perm ((List.perm_middle.symm.cons _).trans List.perm_middle.symm)
      refine (ih _ h').perm ?_
      show (vs.zip (pre pb os) ++ (keepT pb vs os ++ (v, .sh (fz o)) :: (v, .sh (fz o)) :: R)).Perm ((v, .sh (fz o)) :: (vs.zip (pre pb os) ++ (((v, .sh (fz o)) :: keepT pb vs os) ++ R)))
      exact (List.Perm.append_left _ (List.perm_middle.trans (List.perm_middle.cons _))).trans List.perm_middle
theorem pre_len : ∀ {pb : List Bool} {os : List O}, os.length = pb.length → (pre pb os).length = pb.length
  | [], [], _ => rfl
  | b :: pb, o :: os, h => by
    show (pre pb os).length + 1 = pb.length + 1
    rw [pre_len (by simpa using h)]
theorem outs_len : ∀ {pb : List Bool} {os : List O} {ρ : Store} {os' : List O}, outs pb os ρ = some os' → os'.length = pb.length
  | true :: pb, _ :: os, some o :: ρ, os', e => by
    simp only [outs, Option.map_eq_some_iff] at e
    obtain ⟨q, e, rfl⟩ := e
    simp [outs_len e]
  | false :: pb, o :: os, _ :: ρ, os', e => by
    simp only [outs, Option.map_eq_some_iff] at e
    obtain ⟨q, e, rfl⟩ := e
    simp [outs_len e]
  | [], [], _, os', e => by cases e; rfl
  | [], _ :: _, _, _, e => by cases e
  | true :: _, [], _, _, e => by cases e
  | false :: _, [], _, _, e => by cases e
  | true :: _, _ :: _, [], _, e => by cases e
  | false :: _, _ :: _, [], _, e => by cases e
  | true :: _, _ :: _, none :: _, _, e => by cases e
theorem leave_ok : ∀ {pb : List Bool} {vs : List V} {os os' : List O} {σ : L2.St} {ρ : Store}, SlotsOk σ ρ → vs.length = pb.length → (∀ j : Nat, pb[j]? = some true → σ[j]? = (vs[j]?).map some) → outs pb os ρ = some os' →
    ∃ Y, (slotsR σ ρ ++ keepT pb vs os).Perm (Y ++ vs.zip os')
  | [], [], os, os', σ, ρ, _, _, _, e => ⟨slotsR σ ρ ++ keepT [] [] os, by
      cases os with
      | nil => cases e; simp
      | cons _ _ => cases e⟩
  | true :: pb, v :: vs, _ :: os, os', _, some o :: ρ, .keep (v := w) h, hl, hs, e => by
    simp only [outs, Option.map_eq_some_iff] at e
    obtain ⟨q, e, rfl⟩ := e
    have e0 := hs 0 rfl
    obtain rfl : w = v := by simpa using e0
    obtain ⟨Y, p⟩ := leave_ok (pb := pb) (vs := vs) h (by simpa using hl) (fun j hj => by simpa using hs (j + 1) (by simpa using hj)) e
    refine ⟨Y, ?_⟩
    show ((w, o) :: (_ ++ keepT pb vs os)).Perm (Y ++ (w, o) :: vs.zip q)
    exact (p.cons _).trans List.perm_middle.symm
  | false :: pb, v :: vs, o :: os, os', _, x :: ρ, hk, hl, hs, e => by
    simp only [outs, Option.map_eq_some_iff] at e
    obtain ⟨q, e, rfl⟩ := e
    cases hk with
    | @skip y σ _ h =>
      obtain ⟨Y, p⟩ := leave_ok (pb := pb) (vs := vs) h (by simpa using hl) (fun j hj => by simpa using hs (j + 1) (by simpa using hj)) e
      refine ⟨Y, ?_⟩
      rw [slotsR_skip]
      show (_ ++ ((v, .sh (fz o)) :: keepT pb vs os)).Perm (Y ++ (v, .sh (fz o)) :: vs.zip q)
      exact (List.perm_middle.trans (p.cons _)).trans List.perm_middle.symm
    | @keep w u σ _ h =>
      obtain ⟨Y, p⟩ := leave_ok (pb := pb) (vs := vs) h (by simpa using hl) (fun j hj => by simpa using hs (j + 1) (by simpa using hj)) e
      refine ⟨(w, u) :: Y, ?_⟩
      show ((w, u) :: (_ ++ ((v, .sh (fz o)) :: keepT pb vs os))).Perm ((w, u) :: (Y ++ (v, .sh (fz o)) :: vs.zip q))
      exact ((List.perm_middle.trans (p.cons _)).trans List.perm_middle.symm).cons _
  | true :: pb, v :: vs, [], _, _, _, _, _, _, e => by cases e
  | false :: pb, v :: vs, [], _, _, _, _, _, _, e => by cases e
  | [], _ :: _, _, _, _, _, _, hl, _, _ => by simp at hl
  | _ :: _, [], _, _, _, _, _, hl, _, _ => by simp at hl
  | true :: _, _ :: _, _ :: _, _, _, [], _, _, _, e => by cases e
  | false :: _, _ :: _, _ :: _, _, _, [], _, _, _, e => by cases e
  | true :: _, _ :: _, _ :: _, _, _, none :: _, _, _, _, e => by cases e
theorem start_slots : ∀ {vs : List V} {os : List O} {m : Nat}, vs.length = os.length → SlotsOk (vs.map some ++ List.replicate m none) (os.map some ++ List.replicate m none) ∧ slotsR (vs.map some ++ List.replicate m none) (os.map some ++ List.replicate m none) = vs.zip os
  | [], [], 0, _ => ⟨.nil, rfl⟩
  | [], [], m + 1, _ => by
    obtain ⟨a, b⟩ := start_slots (vs := []) (os := []) (m := m) rfl
    refine ⟨.skip a, ?_⟩
    exact b
  | v :: vs, o :: os, m, h => by
    obtain ⟨a, b⟩ := start_slots (vs := vs) (os := os) (m := m) (by simpa using h)
    refine ⟨.keep a, ?_⟩
    exact congrArg ((v, o) :: ·) b
variable {mg : Str → Option Value} {base : Heap}
theorem fn_def {x qual : Str} {st : Stmt} {f : Addr} {fd : FuncData} {N ps : List Str} {k : Nat} {pb : List Bool} {m : Nat} {body : aS} (F : Fun Γ.K x qual st f fd) (S : FnScope N ps (defScope st)) (hl : ps.length = pb.length) (hm : N.length = m)
    (hb : ∀ (cdv : Value) (A : Around) (outer : List Env) (s : Shared) (H : Hp) (E : XK), Room k (A.deeper (envOfC qual (defScope st) s.heap.objs.size f cdv)) →
      Takes (cxOf (L2.CX Γ.prog Γ.w) Γ.prog Γ.w Γ.K mg base N qual (defScope st) f cdv A outer s H E) (fun cls d _ H => E cls d H) →
      PassesOwn (model Γ.prog Γ.w) (cxOf (L2.CX Γ.prog Γ.w) Γ.prog Γ.w Γ.K mg base N qual (defScope st) f cdv A outer s H E).A (cxOf (L2.CX Γ.prog Γ.w) Γ.prog Γ.w Γ.K mg base N qual (defScope st) f cdv A outer s H E).env (cxOf (L2.CX Γ.prog Γ.w) Γ.prog Γ.w Γ.K mg base N qual (defScope st) f cdv A outer s H E).xe →
      ∃ t, AL (cxOf (L2.CX Γ.prog Γ.w) Γ.prog Γ.w Γ.K mg base N qual (defScope st) f cdv A outer s H E) Γ (kp pb) (fun cls d _ H => E cls d H) (defBody st) t body) :
    FnOk Γ.prog Γ.w Γ.K mg base (L2.CX Γ.prog Γ.w) (k + 1) f fd ps (spD Γ pb.length (aDef pb m body)) := by
  refine F.okX S (fun vs H Q E h => by rw [h.1, hl]) fun cdv A outer s H vs Q E hr h => ?_
  obtain ⟨t, at_⟩ := hb cdv A outer s H E hr (takes_of rfl rfl rfl rfl) (passes_of rfl)
  refine ⟨t, at_.pss, ?_⟩
  obtain ⟨hv, e, os, ho, r, k1⟩ := h
  have ent := enter_ok (R := []) hv ho (by rw [List.append_nil]; exact r)
  rw [List.append_nil] at ent
  obtain ⟨sl, sr⟩ := start_slots (vs := vs) (os := pre pb os) (m := m - pb.length) (by rw [pre_len ho, hv])
  have st0 : L2.start N vs = vs.map some ++ List.replicate (m - pb.length) none := by
    unfold L2.start
    rw [hm, hv]
  have s0 : SR Γ (kp pb) ⟨e, L2.start N vs⟩ (L2.start N vs) ((pre pb os).map some ++ List.replicate (m - pb.length) none) (keepT pb vs os) H := by
    rw [st0]
    exact ⟨sl, fun j _ => rfl, by rw [sr]; exact ent⟩
  have back : ∀ (X : List (V × O)) (σ : L2.St) (ρ : Store) (H' : Hp) (os' : List O), SR Γ (kp pb) ⟨e, L2.start N vs⟩ σ ρ (X ++ keepT pb vs os) H' → outs pb os ρ = some os' → RS Γ e (X ++ vs.zip os') H' := by
    intro X σ ρ H' os' q eo
    obtain ⟨Y, p⟩ := leave_ok q.ok hv (fun j hj => by
      have hj' : kp pb j = true := by
        show pb.getD j false = true
        rw [List.getD_eq_getElem?_getD, hj]
        rfl
      rw [q.fix j hj']
      show (L2.start N vs)[j]? = _
      rw [st0]
      have hlt : j < vs.length := by
        rw [hv]
        exact (List.getElem?_eq_some_iff.mp hj).1
      rw [List.getElem?_append_left (by rw [List.length_map]; exact hlt), List.getElem?_map]) eo
    have q1 : RS Γ e (Y ++ (X ++ vs.zip os')) H' := q.rs.perm (by
      refine (List.perm_append_comm_assoc _ _ _).trans ?_
      refine (List.Perm.append_left _ p).trans ?_
      exact List.perm_append_comm_assoc _ _ _)
    exact q1.dropL
  refine at_.sx ⟨e, L2.start N vs⟩ (L2.start N vs) _ (keepT pb vs os) H _ s0 ?_
  unfold aDef at k1
  rw [if_pos ho] at k1
  cases eb : body ((pre pb os).map some ++ List.replicate (m - pb.length) none) with
  | nx ρ =>
    rw [eb] at k1
    simp only at k1
    cases eo : outs pb os ρ with
    | none => rw [eo] at k1; exact k1.elim
    | some os' =>
      rw [eo] at k1
      exact fun σ H' q => k1.2 _ _ ((back [] σ ρ H' os' q eo).pure fun _ => .non)
  | brk ρ => rw [eb] at k1; exact k1.elim
  | ct ρ => rw [eb] at k1; exact k1.elim
  | ret o ρ =>
    rw [eb] at k1
    simp only at k1
    cases eo : outs pb os ρ with
    | none => rw [eo] at k1; exact k1.elim
    | some os' =>
      rw [eo] at k1
      exact fun σ v H' q => k1.2 _ _ (back [(v, o)] σ ρ H' os' q eo)
  | exc x ρ =>
    rw [eb] at k1
    simp only at k1
    cases eo : outs pb os ρ with
    | none => rw [eo] at k1; exact k1.elim
    | some os' =>
      rw [eo] at k1
      refine fun σ cls d H' q => k1.2 cls d H' ?_
      obtain ⟨ec, q⟩ := q
      refine ⟨ec, ?_⟩
      obtain ⟨xc, xfs⟩ := x
      cases xfs with
      | none => exact ⟨q.1, back [] σ ρ H' os' q.2 eo⟩
      | some fs =>
        obtain ⟨dd, e1, q⟩ := q
        exact ⟨dd, e1, back [(.ref dd, .sh (.xd fs))] σ ρ H' os' q eo⟩
  | stuck => rw [eb] at k1; exact k1.elim
end
end Den
end
section
/-! Den, part O: methods that change a thing in its place; o[i] = v; dicts written. -/
namespace Den
open PySem L2 PySem.Spec PyProof.Rows
/-! ### in an opened object, a shared thing in the place of some -/
def repl (y : V) (d : D) (sel : List Bool) (rs : List (V × O)) : List (V × O) := List.zipWith (fun (b : Bool) (r : V × O) => if b = true then (y, O.sh d) else r) sel rs
section
variable {Γ : Gb} {c : Ent} {R : List (V × O)} {H S : Hp} {y : V} {d : D}
theorem ORL.repl (hy : Rep Γ S y d) : ∀ {sel : List Bool} {rs : List (V × O)} {F : List Addr}, ORL Γ S H rs F → ∃ F', ORL Γ S H (Den.repl y d sel rs) F' ∧ F'.Sublist F
  | [], rs, F, h => ⟨[], by simp only [Den.repl, List.zipWith_nil_left]; exact .nil, List.nil_sublist _⟩
  | b :: sel, [], F, h => ⟨[], by simp only [Den.repl, List.zipWith_nil_right]; exact .nil, List.nil_sublist _⟩
  | b :: sel, (v, o) :: rs, F, h => by
    cases h with
    | cons r t =>
      rename_i F1 F2
      obtain ⟨F', a, s⟩ := ORL.repl hy (sel := sel) t
      cases b with
      | true => exact ⟨F', .cons (F := []) (.sh hy) a, s.trans (List.sublist_append_right _ _)⟩
      | false => exact ⟨F1 ++ F', .cons r a, List.Sublist.append (List.Sublist.refl _) s⟩
theorem RSL.repl {a : Addr} {rs : List (V × O)} {sel : List Bool} (h : RSL Γ c (rs ++ R) [a] H) (m : (y, O.sh d) ∈ R) : RSL Γ c (Den.repl y d sel rs ++ R) [a] H := by
  obtain ⟨S, F, st, q, nd, dj, sb, lc⟩ := h
  obtain ⟨F1, F2, rfl, r1, r2⟩ := q.split
  obtain ⟨G, x, _⟩ := r2.mem m
  have hy : Rep Γ S y d := by
    cases x with
    | sh r => exact r
  obtain ⟨F', a', s⟩ := r1.repl hy (sel := sel)
  have sl : ((F' ++ F2) ++ [a]).Sublist ((F1 ++ F2) ++ [a]) := (s.append (List.Sublist.refl _)).append (List.Sublist.refl _)
  exact ⟨S, F' ++ F2, st.mem fun b mb => sl.subset mb, a'.append r2, nd.sublist sl, fun b mb => dj b (sl.subset mb), sb, lc⟩
theorem repl_set {rs : List (V × O)} {n : Nat} (h : n < rs.length) : ∃ sel, Den.repl y d sel rs = rs.set n (y, .sh d) := by
  refine ⟨(List.replicate rs.length false).set n true, ?_⟩
  apply List.ext_getElem?
  intro j
  unfold Den.repl
  rw [List.getElem?_zipWith, List.getElem?_set, List.getElem?_set]
  by_cases hj : n = j
  · subst hj
    simp [h]
  · simp only [hj, if_false]
    rw [List.getElem?_replicate]
    by_cases hl : j < rs.length
    · simp [hl]
    · simp [hl]
end
/-! ### dicts as tables -/
def putD (kvs : List (D × O)) (k : Key) (o : O) : List (D × O) := if (kvs.any fun p => keyEq p.1 k) = true then kvs.map (fun p => if keyEq p.1 k = true then (p.1, o) else p) else kvs ++ [(kD k, o)]
def putT (kvs : List (D × O)) (k : List Key) (o : O) : List (D × O) := if (kvs.any fun p => keyEqT p.1 k) = true then kvs.map (fun p => if keyEqT p.1 k = true then (p.1, o) else p) else kvs ++ [(tD k, o)]
section
variable {Γ : Gb} {c : Ent} {R : List (V × O)} {H S : Hp} {y : V} {d : D}
theorem any_keys {k : Key} : ∀ {dkvs : List (D × O)} {kvs : List (Key × V)}, dkvs.map Prod.fst = kvs.map (fun p => kD p.1) → (dkvs.any fun p => keyEq p.1 k) = (kvs.any fun kv => decide (kv.1 = k))
  | [], [], _ => rfl
  | [], _ :: _, e => by cases e
  | _ :: _, [], e => by cases e
  | (d1, o1) :: dkvs, (k1, v1) :: kvs, e => by
    simp only [List.map_cons, List.cons.injEq] at e
    obtain ⟨rfl, e⟩ := e
    rw [List.any_cons, List.any_cons, any_keys e, keyEq_kD]
theorem map_keys {k : Key} : ∀ {dkvs : List (D × O)} {kvs : List (Key × V)} {rs : List (V × O)}, dkvs.map Prod.fst = kvs.map (fun p => kD p.1) → kvs.map Prod.snd = rs.map Prod.fst → dkvs.map Prod.snd = rs.map Prod.snd →
    ∃ sel, (dkvs.map fun p => if keyEq p.1 k = true then (p.1, O.sh d) else p).map Prod.fst = (kvs.map fun kv => if kv.1 = k then (kv.1, y) else kv).map (fun p => kD p.1) ∧
      (kvs.map fun kv => if kv.1 = k then (kv.1, y) else kv).map Prod.snd = (Den.repl y d sel rs).map Prod.fst ∧ (dkvs.map fun p => if keyEq p.1 k = true then (p.1, O.sh d) else p).map Prod.snd = (Den.repl y d sel rs).map Prod.snd
  | [], [], [], _, _, _ => ⟨[], rfl, rfl, rfl⟩
  | [], _ :: _, _, e, _, _ => by cases e
  | _ :: _, [], _, e, _, _ => by cases e
  | [], [], _ :: _, _, e, _ => by cases e
  | _ :: _, _ :: _, [], _, e, _ => by cases e
  | (d1, o1) :: dkvs, (k1, v1) :: kvs, (v2, o2) :: rs, e1, e2, e3 => by
    simp only [List.map_cons, List.cons.injEq] at e1 e2 e3
    obtain ⟨rfl, e1⟩ := e1
    obtain ⟨rfl, e2⟩ := e2
    obtain ⟨rfl, e3⟩ := e3
    obtain ⟨sel, a, b, c⟩ := map_keys (k := k) e1 e2 e3
    refine ⟨decide (k1 = k) :: sel, ?_, ?_, ?_⟩
    · simp only [List.map_cons, keyEq_kD]
      by_cases hk : k1 = k
      · simp [hk]
        simpa using a
      · simp [hk]
        simpa using a
    · simp only [List.map_cons, Den.repl, List.zipWith_cons_cons]
      by_cases hk : k1 = k
      · simp [hk]
        simpa [Den.repl] using b
      · simp [hk]
        simpa [Den.repl] using b
    · simp only [List.map_cons, Den.repl, List.zipWith_cons_cons, keyEq_kD]
      by_cases hk : k1 = k
      · simp [hk]
        simpa [Den.repl] using c
      · simp [hk]
        simpa [Den.repl] using c
theorem RS.putD {x : V} {kvs : List (D × O)} {k : Key} (h : RS Γ c ((x, .dic kvs) :: R) H) (m : (y, O.sh d) ∈ R) : ∃ a ks, x = .ref a ∧ H a = some (.dK ks) ∧ ks.length = kvs.length ∧ RS Γ c ((x, .dic (putD kvs k (.sh d))) :: R) (upd H a (.dK (putK ks k y))) := by
  obtain ⟨a, rs, ks, rfl, ha, e1, e2, e3, op⟩ := h.openD
  refine ⟨a, ks, rfl, ha, by have := congrArg List.length e1; simpa using this.symm, ?_⟩
  have ea := any_keys (k := k) e1
  unfold Den.putD putK
  cases hb : (ks.any fun kv => decide (kv.1 = k)) with
  | true =>
    rw [ea, hb, if_pos rfl, if_pos rfl]
    obtain ⟨sel, p1, p2, p3⟩ := map_keys (y := y) (d := d) (k := k) e1 e2 e3
    exact ((op.repl (sel := sel) m).put (u := .dK _) noT_dK).closeD upd_same p1 p2 p3
  | false =>
    rw [ea, hb, if_neg (by simp), if_neg (by simp)]
    have h2 : RS Γ c ((y, .sh d) :: ((.ref a, .dic kvs) :: R)) H := h.dup (by simp [m])
    obtain ⟨a', rs', ks', ee, ha', e1', e2', e3', op'⟩ := (h2.perm (List.Perm.swap _ _ _)).openD
    cases ee
    rw [ha] at ha'
    cases ha'
    have op3 : RSL Γ c ((rs' ++ [(y, .sh d)]) ++ R) [a] H := op'.perm (by rw [List.append_assoc]; exact .refl _)
    refine (op3.put (u := .dK (ks ++ [(k, y)])) noT_dK).closeD upd_same ?_ ?_ ?_
    · rw [List.map_append, List.map_append, e1']; rfl
    · rw [List.map_append, List.map_append, e2']; rfl
    · rw [List.map_append, List.map_append, e3']; rfl
theorem any_keysT {k : List Key} : ∀ {dkvs : List (D × O)} {kvs : List (List Key × V)}, dkvs.map Prod.fst = kvs.map (fun p => tD p.1) → (dkvs.any fun p => keyEqT p.1 k) = (kvs.any fun kv => decide (kv.1 = k))
  | [], [], _ => rfl
  | [], _ :: _, e => by cases e
  | _ :: _, [], e => by cases e
  | (d1, o1) :: dkvs, (k1, v1) :: kvs, e => by
    simp only [List.map_cons, List.cons.injEq] at e
    obtain ⟨rfl, e⟩ := e
    rw [List.any_cons, List.any_cons, any_keysT e, keyEqT_tD]
theorem map_keysT {k : List Key} : ∀ {dkvs : List (D × O)} {kvs : List (List Key × V)} {rs : List (V × O)}, dkvs.map Prod.fst = kvs.map (fun p => tD p.1) → kvs.map Prod.snd = rs.map Prod.fst → dkvs.map Prod.snd = rs.map Prod.snd →
    ∃ sel, (dkvs.map fun p => if keyEqT p.1 k = true then (p.1, O.sh d) else p).map Prod.fst = (kvs.map fun kv => if kv.1 = k then (kv.1, y) else kv).map (fun p => tD p.1) ∧
      (kvs.map fun kv => if kv.1 = k then (kv.1, y) else kv).map Prod.snd = (Den.repl y d sel rs).map Prod.fst ∧ (dkvs.map fun p => if keyEqT p.1 k = true then (p.1, O.sh d) else p).map Prod.snd = (Den.repl y d sel rs).map Prod.snd
  | [], [], [], _, _, _ => ⟨[], rfl, rfl, rfl⟩
  | [], _ :: _, _, e, _, _ => by cases e
  | _ :: _, [], _, e, _, _ => by cases e
  | [], [], _ :: _, _, e, _ => by cases e
  | _ :: _, _ :: _, [], _, e, _ => by cases e
  | (d1, o1) :: dkvs, (k1, v1) :: kvs, (v2, o2) :: rs, e1, e2, e3 => by
    simp only [List.map_cons, List.cons.injEq] at e1 e2 e3
    obtain ⟨rfl, e1⟩ := e1
    obtain ⟨rfl, e2⟩ := e2
    obtain ⟨rfl, e3⟩ := e3
    obtain ⟨sel, a, b, c⟩ := map_keysT (k := k) e1 e2 e3
    refine ⟨decide (k1 = k) :: sel, ?_, ?_, ?_⟩
    · simp only [List.map_cons, keyEqT_tD]
      by_cases hk : k1 = k
      · simp [hk]
        simpa using a
      · simp [hk]
        simpa using a
    · simp only [List.map_cons, Den.repl, List.zipWith_cons_cons]
      by_cases hk : k1 = k
      · simp [hk]
        simpa [Den.repl] using b
      · simp [hk]
        simpa [Den.repl] using b
    · simp only [List.map_cons, Den.repl, List.zipWith_cons_cons, keyEqT_tD]
      by_cases hk : k1 = k
      · simp [hk]
        simpa [Den.repl] using c
      · simp [hk]
        simpa [Den.repl] using c
theorem RS.putT {x : V} {kvs : List (D × O)} {k : List Key} (h : RS Γ c ((x, .dit kvs) :: R) H) (m : (y, O.sh d) ∈ R) : ∃ a ks, x = .ref a ∧ H a = some (.dT ks) ∧ ks.length = kvs.length ∧ RS Γ c ((x, .dit (putT kvs k (.sh d))) :: R) (upd H a (.dT (putK ks k y))) := by
  obtain ⟨a, rs, ks, rfl, ha, e1, e2, e3, op⟩ := h.openDT
  refine ⟨a, ks, rfl, ha, by have := congrArg List.length e1; simpa using this.symm, ?_⟩
  have ea := any_keysT (k := k) e1
  unfold Den.putT putK
  cases hb : (ks.any fun kv => decide (kv.1 = k)) with
  | true =>
    rw [ea, hb, if_pos rfl, if_pos rfl]
    obtain ⟨sel, p1, p2, p3⟩ := map_keysT (y := y) (d := d) (k := k) e1 e2 e3
    exact ((op.repl (sel := sel) m).put (u := .dT _) noT_dT).closeDT upd_same p1 p2 p3
  | false =>
    rw [ea, hb, if_neg (by simp), if_neg (by simp)]
    have h2 : RS Γ c ((y, .sh d) :: ((.ref a, .dit kvs) :: R)) H := h.dup (by simp [m])
    obtain ⟨a', rs', ks', ee, ha', e1', e2', e3', op'⟩ := (h2.perm (List.Perm.swap _ _ _)).openDT
    cases ee
    rw [ha] at ha'
    cases ha'
    have op3 : RSL Γ c ((rs' ++ [(y, .sh d)]) ++ R) [a] H := op'.perm (by rw [List.append_assoc]; exact .refl _)
    refine (op3.put (u := .dT (ks ++ [(k, y)])) noT_dT).closeDT upd_same ?_ ?_ ?_
    · rw [List.map_append, List.map_append, e1']; rfl
    · rw [List.map_append, List.map_append, e2']; rfl
    · rw [List.map_append, List.map_append, e3']; rfl
end
/-! ### methods upon a name's own thing -/
def MOk (Γ : Gb) (r : V → List V → Hp → VK → Prop) (f : O → List O → Option (O × O)) : Prop := ∀ c R H x ox (ps : List (V × O)) o' w Q, RS Γ c ((x, ox) :: R) H → (∀ p ∈ ps, p ∈ R) → f ox (ps.map Prod.snd) = some (o', w) →
  (∀ v H', RS Γ c ((v, w) :: (x, o') :: R) H' → Q v H') → r x (ps.map Prod.fst) H Q
def kindO : O → String
  | .lst _ => "list"
  | .sh (.lst _) => "list"
  | .sh (.wls _) => "list"
  | .dic _ => "dict"
  | .sh (.dic _) => "dict"
  | .dit _ => "dict"
  | .sh (.dit _) => "dict"
  | .sh (.str _) => "str"
  | .sh (.int _) => "int"
  | _ => ""
def aMeth (T : String) (i : Nat) (ods : List Od) (f : O → List O → Option (O × O)) : aE := fun ρ => match ρ[i]? with
  | some (some o0) => if kindO o0 = T then (evA ods ρ).bind fun rs ρ1 => match ρ1[i]? with
      | some (some ox) => match rsv (ρ1.set i none) rs with
        | some os => match f ox os with
          | some (o', w) => .ok w (ρ1.set i (some o'))
          | none => .stuck
        | none => .stuck
      | _ => .stuck
    else .stuck
  | _ => .stuck
section
variable {Γ : Gb} {P : Nat → Bool} {W : WX} {ta : TA} {ods : List Od} {i : Nat} {T : String} {r : V → List V → Hp → VK → Prop} {f : O → List O → Option (O × O)}
theorem kind_ok {c : Ent} {R : List (V × O)} {H : Hp} {x : V} {ox : O} (h : RS Γ c R H) (m : (x, ox) ∈ R) (e : kindO ox = T) (hT : T ≠ "") : tyV Γ.K T x H := by
  obtain ⟨S, sb, rd, _⟩ := h.readS
  obtain ⟨F, q⟩ := rd _ m
  have up : ∀ a o, S a = some o → H a = some o := fun a o e => (sb a o e).1
  cases q with
  | sh q =>
    cases q with
    | lst hs hl => exact .inl ⟨e.symm, _, .of (up _ _ hs)⟩
    | wls hs hl => exact .inl ⟨e.symm, _, sqL_mono up hs⟩
    | dic hs e1 hl => exact .inr (.inr (.inl ⟨e.symm, .inl ⟨_, up _ _ hs⟩⟩))
    | dit hs e1 hl => exact .inr (.inr (.inl ⟨e.symm, .inr ⟨_, up _ _ hs⟩⟩))
    | str z => exact e.symm
    | int z => exact e.symm
    | non => exact (hT e.symm).elim
    | bl _ => exact (hT e.symm).elim
    | tup _ _ => exact (hT e.symm).elim
    | ktp _ _ => exact (hT e.symm).elim
    | obj _ _ _ => exact (hT e.symm).elim
    | xd _ _ _ => exact (hT e.symm).elim
  | lst ha hl e' => exact .inl ⟨e.symm, _, .of ha⟩
  | dic ha e1 e2 e3 hl => exact .inr (.inr (.inl ⟨e.symm, .inl ⟨_, ha⟩⟩))
  | dit ha e1 e2 e3 hl => exact .inr (.inr (.inl ⟨e.symm, .inr ⟨_, ha⟩⟩))
  | obj ha e1 e2 e3 hl => exact (hT e.symm).elim
theorem sx_meth (hT : T ≠ "") (ha : Sa Γ P W ta ods) (ok : MOk Γ r f) : Sx Γ P W (tBM Γ.K T r (tVar i) ta) (aMeth T i ods f) := fun fr σ ρ Tt H Q s k => by
  unfold aMeth at k
  split at k
  · rename_i o0 e0
    split at k
    · rename_i hk
      obtain ⟨v, hv, _⟩ := s.take e0
      refine ⟨v, hv, kind_ok s.rs (List.mem_append_left _ (slots_mem s.ok e0 hv)) hk hT, ?_⟩
      refine ha fr σ ρ Tt H _ s ((Good.bind k).imp fun rs ρ1 k vs T' H1 m s1 => ?_)
      split at k
      · rename_i ox ex
        obtain ⟨v', hv', s2⟩ := s1.take ex
        rw [hv] at hv'
        cases hv'
        split at k
        · rename_i os eo
          split at k
          · rename_i o' w ef
            obtain ⟨ps, rfl, rfl, mem⟩ := rsv_ok m s2.drop eo
            refine ok fr.c _ H1 v ox ps o' w Q (s2.rs.perm List.perm_middle) mem ef fun u H2 q => k u H2 ?_
            have s3 : SR Γ P fr σ (ρ1.set i none) ((u, w) :: (v, o') :: (T' ++ Tt)) H2 := ⟨s2.ok, s2.fix, q.perm (by
              refine (List.perm_middle.symm.cons _).trans List.perm_middle.symm)⟩
            have s4 := (s3.permT (List.Perm.swap _ _ _)).back hv
            rw [List.set_set] at s4
            exact (s4.permT (T' := T' ++ (u, w) :: Tt) List.perm_middle.symm).dropL
          · exact k.elim
        · exact k.elim
      · exact k.elim
    · exact k.elim
  · exact k.elim
theorem sx_meth0 (hT : T ≠ "") (ok : MOk Γ r f) : Sx Γ P W (tBM0 Γ.K T r (tVar i)) (aMeth T i [] f) := fun fr σ ρ Tt H Q s k => by
  have := sx_meth (i := i) (P := P) (W := W) hT sa_nil ok fr σ ρ Tt H Q s k
  exact this
end
/-! the methods -/
def fAppend : O → List O → Option (O × O)
  | .lst os, [.sh d] => if os.length < 16000000 then some (.lst (os ++ [.sh d]), .sh .non) else none
  | _, _ => none
def fPop : O → List O → Option (O × O)
  | .lst os, [] => match os[os.length - 1]? with
    | some o => some (.lst os.dropLast, o)
    | none => none
  | _, _ => none
def fPopAt : O → List O → Option (O × O)
  | .lst os, [.sh (.int i)] => if -(2 ^ 63) ≤ i ∧ i < 2 ^ 63 then match seqIndex? i os.length with
      | some k => match os[k]? with
        | some o => some (.lst (os.eraseIdx k), o)
        | none => none
      | none => none
    else none
  | _, _ => none
def fExtend : O → List O → Option (O × O)
  | .lst os, [o] => match lstD o with
    | some ds => if os.length + ds.length ≤ 16000000 then some (.lst (os ++ ds.map O.sh), .sh .non) else none
    | none => none
  | _, _ => none
section
variable {Γ : Gb} {c : Ent} {R : List (V × O)} {H : Hp} {x : V}
theorem RS.openL' {os : List O} (h : RS Γ c ((x, .lst os) :: R) H) : ∃ a rs, x = .ref a ∧ os = rs.map Prod.snd ∧ H a = some (.lst (rs.map Prod.fst)) ∧ ∀ rs' R', (rs ++ R).Perm (rs' ++ R') → RS Γ c ((x, .lst (rs'.map Prod.snd)) :: R') (upd H a (.lst (rs'.map Prod.fst))) := by
  obtain ⟨a, rs, rfl, e, ha, op⟩ := h.openL
  exact ⟨a, rs, rfl, e, ha, fun rs' R' p => ((op.perm p).put noT_lst).closeL upd_same⟩
theorem m_append : MOk Γ rAppend fAppend := by
  intro c R H x ox ps o' w Q h mem e k
  unfold fAppend at e
  split at e
  · rename_i os d eps
    split at e
    · cases e
      rename_i hl
      match ps, eps with
      | [(y, o)], eps =>
        obtain rfl : o = .sh d := by simpa using eps
        have m : (y, O.sh d) ∈ R := mem _ (by simp)
        have h2 : RS Γ c ((x, .lst os) :: (y, .sh d) :: R) H := (h.dup (List.mem_cons_of_mem _ m)).perm (List.Perm.swap _ _ _)
        obtain ⟨a, rs, rfl, rfl, ha, q⟩ := h2.openL'
        refine ⟨a, _, y, rfl, rfl, ha, lt_line (by simpa using hl), k _ _ ?_⟩
        have z := q (rs ++ [(y, .sh d)]) R (by rw [List.append_assoc]; exact .refl _)
        rw [List.map_append, List.map_append] at z
        exact z.pure fun _ => .non
    · cases e
  · cases e
theorem map_dropLast' {α β : Type} (f : α → β) (l : List α) : (l.dropLast).map f = (l.map f).dropLast := by
  rw [List.map_dropLast]
theorem m_pop : MOk Γ rPop fPop := by
  intro c R H x ox ps o' w Q h mem e k
  unfold fPop at e
  split at e
  · rename_i os eps
    split at e
    · cases e
      rename_i ho
      obtain rfl : ps = [] := by simpa using eps
      obtain ⟨a, rs, rfl, rfl, ha, q⟩ := h.openL'
      rw [List.length_map, List.getElem?_map, Option.map_eq_some_iff] at ho
      obtain ⟨⟨y, u⟩, hp, hu⟩ := ho
      obtain rfl : u = w := hu
      refine ⟨a, _, y, rfl, rfl, ha, by rw [List.length_map, List.getElem?_map, hp]; rfl, k _ _ ?_⟩
      have hne : rs ≠ [] := fun z => by rw [z] at hp; simp at hp
      have hlast : rs.getLast hne = (y, u) := by
        rw [List.getLast_eq_getElem]
        have := List.getElem?_eq_some_iff.mp hp
        exact this.2
      have sp : rs.dropLast ++ [(y, u)] = rs := by
        rw [← hlast]
        exact List.dropLast_concat_getLast hne
      have z := q rs.dropLast ((y, u) :: R) (by
        conv => lhs; rw [← sp]
        rw [List.append_assoc]
        exact .refl _)
      rw [map_dropLast', map_dropLast'] at z
      exact z.perm (List.Perm.swap _ _ _)
    · cases e
  · cases e
theorem perm_erase {α : Type} : ∀ {l : List α} {k : Nat} {x : α}, l[k]? = some x → l.Perm (x :: l.eraseIdx k)
  | [], k, x, h => by simp at h
  | y :: l, 0, x, h => by simp at h; subst h; exact .refl _
  | y :: l, k + 1, x, h => by
    have ih := perm_erase (l := l) (k := k) (x := x) (by simpa using h)
    exact (ih.cons y).trans (List.Perm.swap _ _ _)
theorem map_erase {α β : Type} (f : α → β) : ∀ (l : List α) (n : Nat), (l.eraseIdx n).map f = (l.map f).eraseIdx n
  | [], _ => by simp
  | _ :: _, 0 => rfl
  | a :: l, n + 1 => by
    rw [List.eraseIdx_cons_succ, List.map_cons, List.map_cons, List.eraseIdx_cons_succ, map_erase f l n]
theorem m_popAt : MOk Γ rPopAt fPopAt := by
  intro c R H x ox ps o' w Q h mem e k
  unfold fPopAt at e
  split at e
  · rename_i os i eps
    split at e
    · rename_i hi
      split at e
      · rename_i n hn
        split at e
        · cases e
          rename_i ho
          match ps, eps with
          | [(y, u)], eps =>
            obtain rfl : u = .sh (.int i) := by simpa using eps
            have ey : y = .int i := h.int (List.mem_cons_of_mem _ (mem _ (by simp)))
            subst ey
            obtain ⟨a, rs, rfl, rfl, ha, q⟩ := h.openL'
            rw [List.getElem?_map, Option.map_eq_some_iff] at ho
            obtain ⟨⟨v, u⟩, hp, hu⟩ := ho
            obtain rfl : u = w := hu
            refine ⟨a, _, i, n, v, rfl, rfl, ha, hi.1, hi.2, by rw [List.length_map] at hn ⊢; exact hn, by rw [List.getElem?_map, hp]; rfl, k _ _ ?_⟩
            have z := q (rs.eraseIdx n) ((v, u) :: R) (((perm_erase hp).append_right R).trans List.perm_middle.symm)
            rw [map_erase, map_erase] at z
            exact z.perm (List.Perm.swap _ _ _)
        · cases e
      · cases e
    · cases e
  · cases e
theorem m_extend : MOk Γ rExtend fExtend := by
  intro c R H x ox ps o' w Q h mem e k
  unfold fExtend at e
  split at e
  · rename_i os o eps
    split at e
    · rename_i ds ed
      split at e
      · cases e
        rename_i hl
        match ps, eps with
        | [(y, u)], eps =>
          obtain rfl : u = o := by simpa using eps
          obtain ⟨b, zs, rfl, hb, had⟩ := h.lst (List.mem_cons_of_mem _ (mem (y, u) (by simp))) ed
          obtain ⟨S, sb, r, _, ad⟩ := had.ex
          have h2 : RS Γ c ((x, .lst os) :: (zs.zip (ds.map O.sh) ++ R)) H := (ad zs ds r).perm List.perm_middle
          obtain ⟨a, rs, rfl, rfl, ha, q⟩ := h2.openL'
          refine ⟨a, b, _, zs, rfl, rfl, ha, hb, le_line (by rw [List.length_map] at hl ⊢; rw [had.len]; exact hl), k _ _ ?_⟩
          have z := q (rs ++ zs.zip (ds.map O.sh)) R (by rw [List.append_assoc])
          rw [List.map_append, List.map_append, zip_fst had.len, zip_snd had.len] at z
          exact z.pure fun _ => .non
      · cases e
    · cases e
  · cases e
end
section
variable {X : Cx} {Γ : Gb} {P : Nat → Bool} {W : WX} {e : Expr} {es : List Expr} {ta : TA} {ods : List Od} {T id : String} {name x : Str} {r : V → List V → Hp → VK → Prop} {f : O → List O → Option (O × O)} {pn apos cpos : Pos}
theorem ae_meth (i : Nat) (hK : X.K = Γ.K) (ok : MOk Γ r f) (hm : MtR X id r) (pa : PlainAttrs T) (slot : Slot T name id) (hty : typeOf (.builtin id) = pure (.type "method_descriptor")) (ha : AA X Γ P W (e :: es) ta ods) (hT : T ≠ "" := by decide)
    (hN : X.N[i]? = some x := by rfl) (hv : Vis X.env.scope x := by first | exact Or.inl rfl | exact Or.inr (Or.inl rfl) | exact Or.inr (Or.inr rfl)) (hd : (x == ("__debug__" : Str)) = false := by decide)
    (hcd : (x == ("__classdict__" : Str)) = false := by decide) (hbase : attributeBase (.Name x pn) name X.env (eval (.Name x pn) X.env) = eval (.Name x pn) X.env := by rfl)
    (hfew : ((backTo cpos (starEach (e :: es) X.env)).all (fun x => !x.1) && (backToKw cpos (keywordEach [] X.env)).all (fun x => x.1.isSome)
      && decide ((e :: es).length + ([] : List Keyword).length + (if ([] : List Keyword).isEmpty then 0 else 1) < 30)) = true := by rfl)
    (hline : (apos.endLine == cpos.line) = true := by rfl) (hs : starEach (e :: es) X.env = (false, eval e X.env) :: starEach es X.env := by rfl) (hplain : (backTo cpos (starEach es X.env)).any (·.1) = false := by rfl) :
    AE X Γ P W (.Call (.Attribute (.Name x pn) name apos) (e :: es) [] cpos) (tBM Γ.K T r (tVar i) ta) (aMeth T i ods f) :=
  ⟨hK ▸ pe_bm pa slot hty hm (pe_var hN hv hd hcd) ha.pa hbase hfew hline hs hplain, sx_meth hT ha.sa ok⟩
theorem ae_meth0 (i : Nat) (hK : X.K = Γ.K) (ok : MOk Γ r f) (hm : MtR X id r) (pa : PlainAttrs T) (slot : Slot T name id) (hty : typeOf (.builtin id) = pure (.type "method_descriptor")) (hT : T ≠ "" := by decide)
    (hN : X.N[i]? = some x := by rfl) (hv : Vis X.env.scope x := by first | exact Or.inl rfl | exact Or.inr (Or.inl rfl) | exact Or.inr (Or.inr rfl)) (hd : (x == ("__debug__" : Str)) = false := by decide)
    (hcd : (x == ("__classdict__" : Str)) = false := by decide) (hbase : attributeBase (.Name x pn) name X.env (eval (.Name x pn) X.env) = eval (.Name x pn) X.env := by rfl)
    (hline : (apos.endLine == cpos.line) = true := by rfl) : AE X Γ P W (.Call (.Attribute (.Name x pn) name apos) [] [] cpos) (tBM0 Γ.K T r (tVar i)) (aMeth T i [] f) :=
  ⟨hK ▸ pe_bm0 pa slot hty hm (pe_var hN hv hd hcd) hbase hline, sx_meth0 hT ok⟩
end
end Den
end
section
/-! Den, part P: o[i] = v, dict displays, isinstance. -/
namespace Den
open PySem L2 PySem.Spec PyProof.Rows
def setO (x y : O) (d : D) : Option O := match x, y with
  | .lst os, .sh (.int j) => match ixN os.length j with
    | some n => if n < os.length then some (.lst (os.set n (.sh d))) else none
    | none => none
  | .dic kvs, .sh k => match keyD k with
    | some k => if kvs.length < 16000000 then some (.dic (putD kvs k (.sh d))) else none
    | none => none
  | .dit kvs, .sh k => match keyT k with
    | some k => if kvs.length < 16000000 then some (.dit (putT kvs k (.sh d))) else none
    | none => none
  | _, _ => none
def rSetG : TSet := fun o i v H Q => rSetL o i v H Q ∨ rSetD o i v H Q
theorem or_set {X : Cx} (hu : X.A.units + 1 < cLine) : PSet X rSetG := fun pins s σ H o i v ov iv u Q I r1 r2 r3 h => h.elim (fun q => set_list pins s σ H o i v ov iv u Q I r1 r2 r3 q) fun q => set_dict hu pins s σ H o i v ov iv u Q I r1 r2 r3 q
def sSub (i : Nat) (g gi : aE) : aS := fun ρ => (g ρ).out fun o ρ1 => match ρ1[i]? with
  | some (some _) => (gi ρ1).out fun k ρ2 => match ρ2[i]? with
    | some (some x) => match setO x k (fz o) with
      | some o' => .nx (ρ2.set i (some o'))
      | none => .stuck
    | _ => .stuck
  | _ => .stuck
section
variable {Γ : Gb} {P : Nat → Bool} {W : WX}
theorem ok_set {c : Ent} {R : List (V × O)} {H : Hp} {x z y : V} {ox oz o' : O} {d : D} {Q : Hp → Prop} (h : RS Γ c ((x, ox) :: R) H) (mz : (z, oz) ∈ R) (my : (y, O.sh d) ∈ R) (e : setO ox oz d = some o') (k : ∀ H', RS Γ c ((x, o') :: R) H' → Q H') : rSetG x z y H Q := by
  unfold setO at e
  split at e
  · rename_i os j
    split at e
    · rename_i n hn
      split at e
      · cases e
        rename_i hlt
        have ez : z = .int j := h.int (List.mem_cons_of_mem _ mz)
        subst ez
        have h2 : RS Γ c ((x, .lst os) :: (y, .sh d) :: R) H := (h.dup (List.mem_cons_of_mem _ my)).perm (List.Perm.swap _ _ _)
        obtain ⟨a, rs, rfl, rfl, ha, op⟩ := h2.openL
        rw [List.length_map] at hn hlt
        obtain ⟨sel, es⟩ := repl_set (y := y) (d := d) hlt
        refine .inl ⟨a, _, j, n, rfl, rfl, ha, by rw [List.length_map]; exact hn, k _ ?_⟩
        have q := ((op.repl (sel := sel) (y := y) (d := d) (by simp)).put (u := .lst ((rs.map Prod.fst).set n y)) noT_lst)
        rw [es] at q
        have z := q.closeL (by rw [upd_same, List.map_set])
        rw [List.map_set] at z
        exact (z.perm (List.Perm.swap _ _ _)).drop
      · cases e
    · cases e
  · rename_i kvs k'
    split at e
    · rename_i key hk
      split at e
      · cases e
        rename_i hl
        have ez : z = kV key := by
          obtain ⟨S, sb, r⟩ := h.sh (List.mem_cons_of_mem _ mz)
          rw [keyD_kD hk] at r
          exact rep_key r
        obtain ⟨a, ks, rfl, ha, el, q⟩ := h.putD (k := key) my
        refine .inr ⟨a, _, rfl, ?_, k _ q⟩
        rw [ez]
        exact DPut.k ha (lt_line (by omega))
      · cases e
    · cases e
  · rename_i kvs k'
    split at e
    · rename_i key hk
      split at e
      · cases e
        rename_i hl
        obtain ⟨b, rfl, hb⟩ : ∃ b, z = .ref b ∧ H b = some (.tup (key.map kV)) := by
          obtain ⟨S, sb, r⟩ := h.sh (List.mem_cons_of_mem _ mz)
          rw [keyT_tD hk] at r
          obtain ⟨b, e1, e2⟩ := rep_keyT r
          exact ⟨b, e1, (sb _ _ e2).1⟩
        obtain ⟨a, ks, rfl, ha, el, q⟩ := h.putT (k := key) my
        refine .inr ⟨a, _, rfl, ?_, k _ q⟩
        exact DPut.t ha hb (lt_line (by omega))
      · cases e
    · cases e
  · cases e
theorem ss_sub {i : Nat} {te ti : TE} {g gi : aE} (h1 : Sx Γ P W te g) (h2 : Sx Γ P W ti gi) : Ss Γ P W (tAsg te (L2.gSub (tVar i) ti rSetG)) (sSub i g gi) := fun f σ ρ T H D s k => by
  refine h1 f σ ρ T H _ s ((GoodS.bind k).imp fun o ρ1 k v H1 s1 => ?_)
  split at k
  · rename_i o0 e0
    obtain ⟨x, hx, _⟩ := s1.take e0
    refine ⟨x, hx, ?_⟩
    have k2 := (GoodS.bind (σ := σ) k).more (T' := [(v, Den.O.sh (Den.fz o))])
    refine h2 f σ ρ1 _ H1 _ s1.fz (k2.imp fun ky ρ2 k w H2 s2 => ?_)
    split at k
    · rename_i ox e2
      split at k
      · rename_i o' es
        obtain ⟨x', hx', s3⟩ := s2.take e2
        rw [hx] at hx'
        cases hx'
        have r0 : RS Γ f.c ((x, ox) :: (slotsR σ (ρ2.set i none) ++ ((w, ky) :: [(v, Den.O.sh (Den.fz o))] ++ T))) H2 := s3.rs.perm List.perm_middle
        refine ok_set r0 (z := w) (oz := ky) (y := v) (d := Den.fz o) (by simp) (by simp) es fun H3 q => k σ H3 ?_
        have s4 : SR Γ P f σ (ρ2.set i none) ((x, o') :: ((w, ky) :: [(v, Den.O.sh (Den.fz o))] ++ T)) H3 := ⟨s3.ok, s3.fix, q.perm List.perm_middle.symm⟩
        have s5 := s4.back hx
        rw [List.set_set] at s5
        exact s5.drop.drop
      · exact k.elim
    · exact k.elim
  · exact k.elim
end
section
variable {X : Cx} {Γ : Gb} {P : Nat → Bool} {W : WX} {e idx : Expr} {te ti : TE} {g gi : aE} {x : Str} {pn spos pos : Pos} {kk : Nat}
theorem as_sub (i : Nat) (hr : Room kk X.A) (he : AE X Γ P W e te g) (hx : AE X Γ P W idx ti gi) (hN : X.N[i]? = some x := by rfl) (hv : Vis X.env.scope x := by first | exact Or.inl rfl | exact Or.inr (Or.inl rfl) | exact Or.inr (Or.inr rfl)) (hd : (x == ("__debug__" : Str)) = false := by decide)
    (hcd : (x == ("__classdict__" : Str)) = false := by decide)
    (ha : ∀ v, assign (.Subscript (.Name x pn) idx spos) X.env v = (do
      let ov ← holding [v] (eval (.Name x pn) X.env)
      let iv ← holding [v, ov] (eval idx X.env)
      standAt spos
      holding [v, ov, iv] (setItem ov iv v)
      release [v, ov, iv] []) := by intro _; rfl)
    (hs : swapsWithSole [.Subscript (.Name x pn) idx spos] e pos.line X.env = pure false := by rfl) (hw : swappedStores [.Subscript (.Name x pn) idx spos] e X.env = pure none := by rfl)
    (h1 : (assignEach [.Subscript (.Name x pn) idx spos] X.env).map (·.2) = [assign (.Subscript (.Name x pn) idx spos) X.env] := by rfl) :
    AS X Γ P W (.Assign [.Subscript (.Name x pn) idx spos] e pos) (tAsg te (L2.gSub (tVar i) ti rSetG)) (sSub i g gi) :=
  ⟨ps_asg he.pe (pg_sub (pe_var hN hv hd hcd) hx.pe (or_set (hu_of hr)) ha) hs hw h1, ss_sub he.sx hx.sx⟩
end
/-! ### dict displays -/
def prD : List O → Option (List (Key × D))
  | [] => some []
  | .sh k :: .sh d :: r => match keyD k with
    | some k => (prD r).map ((k, d) :: ·)
    | none => none
  | _ => none
def aDisp (ods : List Od) : aE := fun ρ => (evA ods ρ).bind fun rs ρ' => match rsv ρ' rs with
  | some os => match prD os with
    | some kds => if (kds.map Prod.fst).Nodup ∧ kds.length ≤ 15 then .ok (.dic (kds.map fun p => (kD p.1, .sh p.2))) ρ' else .stuck
    | none => .stuck
  | none => .stuck
def flatP : List (V × V) → List V
  | [] => []
  | (x, y) :: r => x :: y :: flatP r
def Sp2 (Γ : Gb) (P : Nat → Bool) (W : WX) (trs : List (TE × TE)) (ods : List Od) : Prop := ∀ f σ ρ T H R, SR Γ P f σ ρ T H →
  Good Γ P W f σ T (fun rs ρ' => ∀ ps T' H', Mt σ T' (flatP ps) rs → SR Γ P f σ ρ' (T' ++ T) H' → R ps H') (evA ods ρ) → tPairs trs σ H R
section
variable {Γ : Gb} {P : Nat → Bool} {W : WX} {tk tv : TE} {gk gv : aE} {trs : List (TE × TE)} {ods : List Od}
theorem sp_nil : Sp2 Γ P W [] [] := fun f σ ρ T H R s k => k [] [] H .nil s
theorem sp_cons (h1 : Sx Γ P W tk gk) (h2 : Sx Γ P W tv gv) (h3 : Sp2 Γ P W trs ods) : Sp2 Γ P W ((tk, tv) :: trs) (.ex gk :: .ex gv :: ods) := fun f σ ρ T H R s k => by
  have k1 : Good Γ P W f σ T _ (gk ρ) := Good.bind k
  refine h1 f σ ρ T H _ s (k1.imp fun o ρ1 k2 v H1 s1 => ?_)
  have k2' := Good.bind (Good.bind k2)
  refine h2 f σ ρ1 ((v, o) :: T) H1 _ s1 ((k2'.more (T' := [(v, o)])).imp fun u ρ2 k3 w H2 s2 => ?_)
  have k3' := (Good.bind k3).more (T' := [(w, u), (v, o)])
  refine h3 f σ ρ2 _ H2 _ s2 (k3'.imp fun rs ρ3 k4 ps T' H3 m s3 => ?_)
  refine k4 ((v, w) :: ps) ((T' ++ [(w, u)]) ++ [(v, o)]) H3 (.ex (.ex m)) ?_
  rw [List.append_assoc, List.append_assoc]
  exact s3
theorem merge_new : ∀ {more acc : List (Key × V)}, (∀ p ∈ more, valV acc p.1 = none) → (more.map Prod.fst).Nodup → mergeK acc more = acc ++ more
  | [], acc, _, _ => by simp [mergeK]
  | (k, v) :: more, acc, h, nd => by
    have h0 := h (k, v) (by simp)
    show mergeK (putK acc k v) more = _
    rw [putK_new v h0]
    rw [List.map_cons, List.nodup_cons] at nd
    rw [merge_new (fun p hp => ?_) nd.2, List.append_assoc]
    · rfl
    · rw [valV_snoc k p.1 v acc h0, if_neg (fun e => nd.1 (by have := List.mem_map_of_mem (f := Prod.fst) hp; rw [e] at this; exact this))]
      exact h p (List.mem_cons_of_mem _ hp)
theorem prD_ok {S : Hp} : ∀ {os : List O} {kds : List (Key × D)}, prD os = some kds → ∀ {ps : List (V × O)} {vps : List (V × V)}, ps.map Prod.snd = os → ps.map Prod.fst = flatP vps → (∀ p ∈ ps, ∀ d, p.2 = .sh d → Rep Γ S p.1 d) →
    ∃ kvs : List (Key × V), vps = kvs.map (fun kv => (kV kv.1, kv.2)) ∧ kvs.map Prod.fst = kds.map Prod.fst ∧ RepL Γ S (kvs.map Prod.snd) (kds.map Prod.snd)
  | [], kds, e, ps, vps, e1, e2, _ => by
    cases e
    obtain rfl : ps = [] := by simpa using e1
    cases vps with
    | nil => exact ⟨[], rfl, rfl, .nil⟩
    | cons p r => obtain ⟨x, y⟩ := p; cases e2
  | .sh k :: .sh d :: r, kds, e, ps, vps, e1, e2, rp => by
    simp only [prD] at e
    split at e
    · rename_i key hk
      simp only [Option.map_eq_some_iff] at e
      obtain ⟨kds', e, rfl⟩ := e
      match ps, e1 with
      | (v1, o1) :: (v2, o2) :: ps, e1 =>
        simp only [List.map_cons, List.cons.injEq] at e1
        obtain ⟨rfl, rfl, e1⟩ := e1
        cases vps with
        | nil => cases e2
        | cons p vps =>
          obtain ⟨x, y⟩ := p
          simp only [List.map_cons, flatP, List.cons.injEq] at e2
          obtain ⟨rfl, rfl, e2⟩ := e2
          obtain ⟨kvs, a, b, c⟩ := prD_ok e e1 e2 (fun p hp => rp p (by simp [hp]))
          have r1 := rp (v1, .sh k) (by simp) k rfl
          rw [keyD_kD hk] at r1
          obtain rfl := rep_key r1
          exact ⟨(key, v2) :: kvs, by simp [a], by simp [b], .cons (rp (v2, .sh d) (by simp) d rfl) c⟩
    · cases e
  | .sh _ :: [], _, e, _, _, _, _, _ => by simp [prD] at e
  | .sh _ :: .lst _ :: _, _, e, _, _, _, _, _ => by simp [prD] at e
  | .sh _ :: .dic _ :: _, _, e, _, _, _, _, _ => by simp [prD] at e
  | .sh _ :: .obj _ _ :: _, _, e, _, _, _, _, _ => by simp [prD] at e
  | .lst _ :: _, _, e, _, _, _, _, _ => by simp [prD] at e
  | .dic _ :: _, _, e, _, _, _, _, _ => by simp [prD] at e
  | .obj _ _ :: _, _, e, _, _, _, _, _ => by simp [prD] at e
theorem sx_disp (h : Sp2 Γ P W trs ods) : Sx Γ P W (tDisp trs) (aDisp ods) := fun f σ ρ T H Q s k p hp => by
  have s0 : SR Γ P f σ ρ ((.ref p, .dic []) :: T) (upd H p (.dK [])) := s.mapT fun R q => RS.newD (rs := []) (kvs := []) (dkvs := []) q hp rfl rfl rfl
  refine h f σ ρ _ _ _ s0 (((Good.bind k).more (T' := [(.ref p, .dic [])])).imp fun rs ρ' k ps T' H' m s1 => ?_)
  split at k
  · rename_i os eo
    split at k
    · rename_i kds ek
      split at k
      · rename_i hk
        obtain ⟨qs, q1, q2, mem⟩ := rsv_ok m s1 eo
        obtain ⟨S, sb, rd, ad, ads⟩ := s1.rs.readS
        obtain ⟨kvs, ev, ef, er⟩ := prD_ok (Γ := Γ) (S := S) ek q2 q1 (fun x hx d ed => by
          obtain ⟨x1, x2⟩ := x
          obtain ⟨F, z⟩ := rd _ (mem _ hx)
          obtain rfl : x2 = .sh d := ed
          cases z with
          | sh r => exact r)
        have e0 : H' p = some (.dK []) := by
          obtain ⟨F, z⟩ := rd (.ref p, .dic []) (by simp)
          cases z with
          | @dic a ks dk rs F ha e1 e2 e3 hl =>
            obtain rfl : ks = [] := by simpa using e1.symm
            exact ha
        refine ⟨e0, kvs, ev, ?_, k _ _ ?_⟩
        · have := congrArg List.length ef
          simp only [List.length_map] at this
          omega
        · have nd : (kvs.map Prod.fst).Nodup := by rw [ef]; exact hk.1
          rw [merge_new (fun x _ => rfl) nd, List.nil_append]
          have z := (ads _ _ er).perm (R' := (.ref p, .dic []) :: ((kvs.map Prod.snd).zip ((kds.map Prod.snd).map O.sh) ++ (slotsR σ ρ' ++ (T' ++ T)))) (by
            refine (List.Perm.append_left _ ((List.Perm.append_left _ List.perm_middle).trans List.perm_middle)).trans List.perm_middle)
          obtain ⟨a, rs', ks', ee, ha, e1, e2, e3, op⟩ := z.openD
          cases ee
          have ers : rs' = [] := by
            have := congrArg List.length e3
            simpa using this.symm
          subst ers
          have hlen : (kvs.map Prod.snd).length = (kds.map Prod.snd).length := er.len
          have q := (op.put (u := .dK kvs) noT_dK).closeD (rs := (kvs.map Prod.snd).zip ((kds.map Prod.snd).map O.sh)) (R := slotsR σ ρ' ++ (T' ++ T)) (kvs := kvs) (dkvs := kds.map fun p => (kD p.1, O.sh p.2)) upd_same
            (by
              rw [List.map_map]
              have := congrArg (List.map kD) ef
              rw [List.map_map, List.map_map] at this
              exact this.symm)
            (zip_fst hlen).symm (by rw [zip_snd hlen, List.map_map, List.map_map]; rfl)
          have s2 : SR Γ P f σ ρ' ((.ref p, .dic (kds.map fun p => (kD p.1, O.sh p.2))) :: (T' ++ T)) _ := ⟨s1.ok, s1.fix, q.perm List.perm_middle.symm⟩
          exact (s2.permT (T' := T' ++ (.ref p, .dic (kds.map fun p => (kD p.1, O.sh p.2))) :: T) List.perm_middle.symm).dropL
      · exact k.elim
    · exact k.elim
  · exact k.elim
end
structure APP (X : Cx) (Γ : Gb) (P : Nat → Bool) (W : WX) (pos : Pos) (keys : List (Option Expr)) (values : List Expr) (trs : List (TE × TE)) (ods : List Od) : Prop where
  pps : PPs X pos keys values trs
  sp : Sp2 Γ P W trs ods
section
variable {X : Cx} {Γ : Gb} {P : Nat → Bool} {W : WX} {k v : Expr} {ks : List (Option Expr)} {vs : List Expr} {tk tv : TE} {gk gv : aE} {trs : List (TE × TE)} {ods : List Od} {pos : Pos}
theorem app_nil : APP X Γ P W pos [] [] [] [] := ⟨pps_nil, sp_nil⟩
theorem app_cons (h1 : AE X Γ P W k tk gk) (h2 : AE X Γ P W v tv gv) (h3 : APP X Γ P W pos ks vs trs ods) : APP X Γ P W pos (some k :: ks) (v :: vs) ((tk, tv) :: trs) (.ex (aFz gk) :: .ex (aFz gv) :: ods) :=
  ⟨pps_cons h1.pe h2.pe h3.pps, sp_cons (sx_fz h1.sx) (sx_fz h2.sx) h3.sp⟩
theorem ae_disp (h : APP X Γ P W pos ks vs trs ods) (hall : ks.all (·.isSome) = true := by rfl) (hl : ks.length = vs.length := by rfl) (h0 : ks ≠ [] := by exact List.cons_ne_nil _ _) (h15 : ks.length ≤ 15 := by exact Nat.le_of_ble_eq_true rfl) : AE X Γ P W (.Dict ks vs pos) (tDisp trs) (aDisp ods) :=
  ⟨pe_disp h.pps hall hl h0 h15, sx_disp h.sp⟩
def aNewD : aE := fun ρ => .ok (.dic []) ρ
theorem ae_newD : AE X Γ P W (.Dict [] [] pos) tDNewK aNewD := ⟨pe_dnewK, fun f σ ρ T H Q s k p hp => k _ _ (s.mapT fun R q => RS.newD (rs := []) (kvs := []) (dkvs := []) q hp rfl rfl rfl)⟩
end
/-! ### isinstance -/
section
variable {X : Cx} {Γ : Gb} {P : Nat → Bool} {W : WX} {a : Expr} {ta : TE} {oa : Od} {pos pn pt : Pos} {n : String} {xt : Str}
theorem ae_isi (hK : X.K = Γ.K) (hm : X.mg "isinstance" = none) (ha : AO X Γ P W a ta oa) (hmt : X.mg xt = none) (hbt : bootBuiltins xt = some (.type n)) (hn : n = "int" ∨ n = "bool" ∨ n = "str" ∨ n = "tuple" ∨ n = "list" ∨ n = "dict" := by decide)
    (hb : bootBuiltins "isinstance" = some (.builtin "isinstance") := by decide +kernel) (hg : Gl X "isinstance" := by rfl) (hgt : Gl X xt := by rfl) (hnt : xt ≠ "__name__" := by decide) (hdt : (xt == ("__debug__" : Str)) = false := by decide)
    (he : starEach (a :: [.Name xt pt]) X.env = (false, eval a X.env) :: starEach [.Name xt pt] X.env := by rfl) (he2 : starEach (.Name xt pt :: []) X.env = (false, eval (.Name xt pt) X.env) :: starEach [] X.env := by rfl)
    (hpl : (backTo pos (starEach [.Name xt pt] X.env)).any (·.1) = false := by rfl) :
    AE X Γ P W (.Call (.Name "isinstance" pn) [a, .Name xt pt] [] pos) (tCB (rIsi Γ.K) (tCons ta (tCons (tC (.ty n)) tNil))) (aOp [oa] (l1 (gIsi n))) :=
  ⟨hK ▸ pe_callB call_isi hg hm hb (pa_cons ha.pe (pa_cons (pe_bltn hgt hmt hbt rfl hnt hdt) pa_nil he2) he) (by decide) (by decide) he hpl,
    show Sx Γ P W (fun σ H Q => ta σ H fun x H1 => (fun x H Q => rIsi Γ.K [x, .ty n] H Q) x H1 Q) _ from sx_op1 (ha.sa sa_nil) (ok_isi hn)⟩
end
end Den
end
section
/-! Den, part Q: a module's constants; a def that is never reached; what the written part tells. -/
namespace Den
open PySem L2 PySem.Spec PyProof.Rows
/-- a name of the module that stands for plain data -/
def GC (Γ : Gb) (mg : Str → Option Value) (x : Str) (v : V) (d : D) : Prop := (∃ u, mg x = some u ∧ RelV v u) ∧ ∀ S, Rep Γ S v d
section
variable {X : Cx} {Γ : Gb} {P : Nat → Bool} {W : WX} {pos : Pos}
theorem ae_gc {x : Str} {v : V} {d : D} (g : GC Γ X.mg x v d) (hg : Gl X x := by rfl) (hd : (x == ("__debug__" : Str)) = false := by decide) : AE X Γ P W (.Name x pos) (tC v) (aC d) := by
  obtain ⟨⟨u, hm, r⟩, rp⟩ := g
  exact ⟨pe_glob hg hm r hd, sx_c rp⟩
theorem fn_stuck {mg : Str → Option Value} {base : Heap} {k n : Nat} {f : Addr} {fd : FuncData} {ps : List Str} (h : ps.length = n) : FnOk Γ.prog Γ.w Γ.K mg base (L2.CX Γ.prog Γ.w) k f fd ps (spD Γ n fun _ => .stuck) :=
  ⟨fun vs H Q E q => by rw [q.1, h], fun A outer s H args us vs Q E hr he hb hv hs => by
    obtain ⟨_, e, os, _, _, z⟩ := hs
    exact z.elim⟩
theorem Cl.mono {mg : Str → Option Value} {base : Heap} {j k n : Nat} {x : Str} {dds : List D} {den : aF} (C : Cl Γ mg base j x n dds den) (h : j ≤ k) : Cl Γ mg base k x n dds den := by
  obtain ⟨f, fd, ps, ds, F, q⟩ := C.ex
  exact ⟨f, fd, ps, ds, F.mono h, q⟩
/-- a def of the module, from what the written part tells of it -/
theorem cl_mk {mg : Str → Option Value} {base : Heap} {k n : Nat} {x : Str} {dds : List D} {den : aF} {f : Addr} {fd : FuncData} {ps : List Str} {ds : List Value} (F : FnOk Γ.prog Γ.w Γ.K mg base (L2.CX Γ.prog Γ.w) k f fd ps (spD Γ n den)) (hm : mg x = some (.ref f))
    (hk : PySem.W.keepIn Γ.K (.ref f) = true) (hb : Binds Γ.K fd ps ds) (hd : Vals (dds.map toV) ds) (hr : ∀ S, RepL Γ S (dds.map toV) dds) : Cl Γ mg base k x n dds den := ⟨f, fd, ps, ds, F, hm, hk, hb, hd, hr⟩
theorem cl_mk0 {mg : Str → Option Value} {base : Heap} {k n : Nat} {x : Str} {den : aF} {f : Addr} {fd : FuncData} {ps : List Str} (F : FnOk Γ.prog Γ.w Γ.K mg base (L2.CX Γ.prog Γ.w) k f fd ps (spD Γ n den)) (hm : mg x = some (.ref f))
    (hk : PySem.W.keepIn Γ.K (.ref f) = true) (hb : Binds Γ.K fd ps []) : Cl Γ mg base k x n [] den := cl_mk F hm hk hb .nil fun _ => .nil
theorem vals_all {S : Hp} {us : List Value} {ds : List D} (h : ds.length = us.length) (k : ∀ (i : Nat) (d : D) (u : Value), ds[i]? = some d → us[i]? = some u → RelV (toV d) u) : Vals (ds.map toV) us := by
  induction ds generalizing us with
  | nil =>
    cases us with
    | nil => exact .nil
    | cons _ _ => simp at h
  | cons d ds ih =>
    cases us with
    | nil => simp at h
    | cons u us => exact .cons (k 0 d u rfl rfl) (ih (by simpa using h) fun i d u a b => k (i + 1) d u (by simpa using a) (by simpa using b))
end
end Den
end
section
/-! Den, part R: constants of the module, the law's end. -/
namespace Den
open PySem L2 PySem.Spec PyProof.Rows
/-- an int, a text, True, False, None -/
def isScal : D → Bool
  | .non => true
  | .bl _ => true
  | .int _ => true
  | .str _ => true
  | _ => false
theorem rep_scal {Γ : Gb} {S : Hp} : ∀ {d : D}, isScal d = true → Rep Γ S (toV d) d
  | .non, _ => .non
  | .bl _, _ => .bl _
  | .int _, _ => .int _
  | .str _, _ => .str _
theorem repL_scal {Γ : Gb} {S : Hp} : ∀ {ds : List D}, ds.all isScal = true → RepL Γ S (ds.map toV) ds
  | [], _ => .nil
  | d :: ds, h => by
    rw [List.all_cons, Bool.and_eq_true] at h
    exact .cons (rep_scal h.1) (repL_scal h.2)
section
variable {Γ : Gb} {mg : Str → Option Value}
theorem gc_tup {x : Str} {a : Addr} {ds : List D} {us : Array Value} {dd : Option Addr} {n : Nat} {sl : Array (Option Value)} (hm : mg x = some (.ref a)) (lk : Γ.K.lookup a = some ⟨.type "tuple", dd, .seq us n, sl⟩) (hs : ds.all isScal = true) (hv : Vals (ds.map toV) us.toList)
    (hz : us.size ≤ sizeLine) : GC Γ mg x (.ref a) (.ktp ds) := ⟨⟨_, hm, rfl⟩, fun S => .ktp (.inr ⟨_, us, n, lk, rfl, rfl, hz, hv⟩) (repL_scal hs)⟩
theorem gc_lst {x : Str} {a : Addr} {ds : List D} {us : Array Value} {n : Nat} {sl : Array (Option Value)} (hm : mg x = some (.ref a)) (lk : Γ.K.lookup a = some ⟨.type "list", none, .seq us n, sl⟩) (hs : ds.all isScal = true) (hv : Vals (ds.map toV) us.toList)
    (hz : us.size ≤ sizeLine) : GC Γ mg x (.ref a) (.wls ds) := ⟨⟨_, hm, rfl⟩, fun S => .wls (.inr ⟨_, us, n, lk, rfl, rfl, rfl, hz, hv⟩) (repL_scal hs)⟩
theorem gc_scal {x : Str} {d : D} {u : Value} (hm : mg x = some u) (hs : isScal d = true) (r : RelV (toV d) u) : GC Γ mg x (toV d) d := ⟨⟨u, hm, r⟩, fun S => rep_scal hs⟩
end
/-- the law's own promise, from what its den answers -/
theorem sp_law {P : Program} {w : World} {K : PySem.W.Frag} {cls : Nat → Addr} {den : aF} {H : Hp} {a : Addr} {ns : List Int} (hO : Only H) (hS : SqL K H a (ns.map V.int)) (h : ∃ os', den [.sh (.wls (ns.map D.int))] = .ret (.sh (.bl true)) os' ∧ os'.length = 1) :
    spD ⟨P, w, K, cls⟩ 1 den [.ref a] H (fun v _ => v = .bl true) fun _ _ _ => False := by
  obtain ⟨os', hd, hl⟩ := h
  refine ⟨rfl, ⟨H, H, []⟩, [.sh (.wls (ns.map D.int))], rfl, ⟨H, [], ⟨fun _ _ e => e, fun _ _ e _ _ => e, fun _ e => e, fun _ m => (by cases m), fun _ e => .inl e⟩, .cons (F := []) (.sh (.wls hS repL_ints)) .nil, by simp, fun _ m => (by simp at m), fun b o e => ⟨e, ?_⟩, fun _ m => by cases m⟩, ?_⟩
  · rcases hO b with z | ⟨o', xs, z⟩
    · rw [z] at e; cases e
    · rw [z] at e
      cases e
      exact fun ps q => by cases q
  · rw [hd]
    exact ⟨hl, fun v H' r => r.bl (by simp)⟩
theorem cx_none {P : Program} {w : World} {H : Hp} {s : Shared} {e : Value} {s' : Shared} (h : L2.CX P w [] H s (fun _ _ _ => False) e s') : False := by
  obtain ⟨_, _, _, _, _, _, _, _, _, _, _, _, z⟩ := h
  exact z
theorem walk_den {l : PySem.W.OpenLaw} {k : Nat} {q : Program} {loose : List Str} {XP : (Str → Option Value) → Heap → Prop} {YP : World → Heap → Prop} {d : DefRec} {K : Params → PySem.W.Frag} {den : aF} {cls : Nat → Addr} (hn : l.most = some 63) (hdf : d.params.defaults = []) (hr : Room k callerA)
    (hY : ∀ (w : World) (h : Heap), YP w h → (K w.params).In h)
    (F : ∀ (w : World) (mg : Str → Option Value) (fa : Addr) (h : Heap), (K w.params).In h → h.Ns mainGlobals mg → mg d.name = some (.ref fa) →
      ∃ fd : FuncData, (∀ (s : Shared) (u : Value), BindsTo s fd ⟨[u], []⟩ [("script", u)]) ∧ ∀ base : Heap, (K w.params).In base → base.Ns mainGlobals mg → FnOk l.prog w (K w.params) mg base (L2.CX l.prog w) k fa fd ["script"] (spD ⟨l.prog, w, K w.params, cls⟩ 1 den))
    (hL : ∀ ns : List Int, ns.length ≤ 63 → ∃ os', den [.sh (.wls (ns.map D.int))] = .ret (.sh (.bl true)) os' ∧ os'.length = 1) :
    PySem.W.WalkO q loose XP YP l.row.toRowW d [] (fun f vs => PySem.call f vs) :=
  L2.walk_of (n := 63) (k := k) (x := "script") (CX := fun w => L2.CX l.prog w) (sp := fun w => spD ⟨l.prog, w, K w.params, cls⟩ 1 den) hn (by decide) hdf hr hY F (fun _ _ a ns hl hO hS => sp_law hO hS (hL ns hl)) fun _ _ _ _ _ z => cx_none z
end Den
end
section
/-! Den, part S: plain lemmas: what the operations answer at tuples and lists of texts, of ints. -/
namespace Den
open PySem L2
def tS (xs : List Str) : D := .tup (xs.map D.str)
def lS (xs : List Str) : D := .lst (xs.map D.str)
def lI (xs : List Int) : D := .lst (xs.map D.int)
abbrev okS (x : Str) : Prop := PyData.strOk x = true
abbrev okSs (xs : List Str) : Prop := ∀ x ∈ xs, PyData.strOk x = true
theorem toPyL_strs : ∀ xs : List Str, toPyL (xs.map D.str) = some (xs.map PyData.str)
  | [] => by simp [toPyL]
  | x :: xs => by simp [toPyL, toPy, toPyL_strs xs]
theorem toPyL_ints : ∀ xs : List Int, toPyL (xs.map D.int) = some (xs.map PyData.int)
  | [] => by simp [toPyL]
  | x :: xs => by simp [toPyL, toPy, toPyL_ints xs]
theorem layAll_strs : ∀ {xs : List Str}, okSs xs → PyData.canLayAll0 (xs.map PyData.str) = true
  | [], _ => by simp [PyData.canLayAll0]
  | x :: xs, h => by
    simp only [List.map_cons, PyData.canLayAll0, PyData.canLay0, Bool.and_eq_true]
    exact ⟨h x (by simp), layAll_strs fun y hy => h y (by simp [hy])⟩
theorem depthAll_strs : ∀ xs : List Str, PyData.depthAll (xs.map PyData.str) = 0
  | [] => by simp [PyData.depthAll]
  | x :: xs => by simp [PyData.depthAll, PyData.depth, depthAll_strs xs]
theorem eqvAll_strs : ∀ xs ys : List Str, PyData.eqvAll (xs.map PyData.str) (ys.map PyData.str) = decide (xs = ys)
  | [], [] => by simp [PyData.eqvAll]
  | [], _ :: _ => by simp [PyData.eqvAll]
  | _ :: _, [] => by simp [PyData.eqvAll]
  | x :: xs, y :: ys => by
    simp only [List.map_cons, PyData.eqvAll, PyData.eqv, eqvAll_strs xs ys, List.cons.injEq]
    by_cases h : x = y
    · simp [h]
    · simp [h]
theorem shaped_tS {xs : List Str} (h : okSs xs) : SeqAt.shaped (.tuple (xs.map PyData.str)) = true := by
  simp [SeqAt.shaped, PyData.canLay0, layAll_strs h, PyData.depth, depthAll_strs]
theorem shaped_lS {xs : List Str} (h : okSs xs) : SeqAt.shaped (.list (xs.map PyData.str)) = true := by
  simp [SeqAt.shaped, PyData.canLay0, layAll_strs h, PyData.depth, depthAll_strs]
theorem eqD_tS {xs ys : List Str} (h : okSs xs) (k : okSs ys) : gEqD (tS xs) (tS ys) = some (decide (xs = ys)) := by
  simp [gEqD, scalD, tS, toPy, toPyL_strs, shaped_tS h, shaped_tS k, PyData.eqv, eqvAll_strs]
theorem eqD_lS {xs ys : List Str} (h : okSs xs) (k : okSs ys) : gEqD (lS xs) (lS ys) = some (decide (xs = ys)) := by
  simp [gEqD, scalD, lS, toPy, toPyL_strs, shaped_lS h, shaped_lS k, PyData.eqv, eqvAll_strs]
theorem gEq_tS {xs ys : List Str} (h : okSs xs) (k : okSs ys) : gEq (.sh (tS xs)) (.sh (tS ys)) = some (.sh (.bl (decide (xs = ys)))) := by simp [gEq, fz, eqD_tS h k]
theorem gEq_str (x y : Str) : gEq (.sh (.str x)) (.sh (.str y)) = some (.sh (.bl (decide (x = y)))) := by simp [gEq, fz, gEqD, scalD]
theorem gEq_int (x y : Int) : gEq (.sh (.int x)) (.sh (.int y)) = some (.sh (.bl (decide (x = y)))) := by simp [gEq, fz, gEqD, scalD]
theorem gNe_str (x y : Str) : gNe (.sh (.str x)) (.sh (.str y)) = some (.sh (.bl (!decide (x = y)))) := by simp [gNe, fz, gEqD, scalD]
theorem gNe_int (x y : Int) : gNe (.sh (.int x)) (.sh (.int y)) = some (.sh (.bl (!decide (x = y)))) := by simp [gNe, fz, gEqD, scalD]
theorem inF_strs (c : Str) : ∀ xs : List Str, inF (.str c) (xs.map D.str) = decide (c ∈ xs)
  | [] => by simp [inF]
  | x :: xs => by
    have ih := inF_strs c xs
    unfold inF at ih ⊢
    rw [List.map_cons, List.any_cons, ih]
    have e : eqF (.str x) (.str c) = decide (c = x) := by
      show (x == c) = _
      by_cases h : c = x
      · simp [h]
      · rw [decide_eq_false h]
        exact beq_eq_false_iff_ne.mpr fun z => h z.symm
    rw [e]
    by_cases h : c = x <;> simp [h]
theorem flat_strs (xs : List Str) : (xs.map D.str).all flatD = true := by
  rw [List.all_eq_true]
  intro d hd
  obtain ⟨x, _, rfl⟩ := List.mem_map.mp hd
  rfl
theorem inG_tS (c : Str) (xs : List Str) : inG (.sh (.str c)) (.sh (tS xs)) = some (decide (c ∈ xs)) := by
  simp only [inG, tS, ditD, dicD, seqD, fz, flat_strs, flatD, inF_strs, and_self, if_true]
theorem inG_lS (c : Str) (xs : List Str) : inG (.sh (.str c)) (.sh (lS xs)) = some (decide (c ∈ xs)) := by
  simp only [inG, lS, ditD, dicD, seqD, fz, flat_strs, flatD, inF_strs, and_self, if_true]
theorem cutD_map {α β : Type} (f : α → β) (xs : List α) (lo hi : Option Int) : cutD (xs.map f) lo hi = (cutD xs lo hi).map f := by simp [cutD, List.map_drop, List.map_take]
theorem cut_to {α : Type} (xs : List α) (k : Nat) : cutD xs none (some (k : Int)) = xs.take k := by
  unfold cutD
  rw [HT.sIx_none, HT.sIx_nat, List.drop_zero, Nat.sub_zero]
  by_cases h : k ≤ xs.length
  · rw [Nat.min_eq_left h]
  · rw [Nat.min_eq_right (by omega), List.take_of_length_le (Nat.le_refl _), List.take_of_length_le (by omega)]
theorem cut_from {α : Type} (xs : List α) (k : Nat) : cutD xs (some (k : Int)) none = xs.drop k := by
  unfold cutD
  rw [HT.sIx_none, HT.sIx_nat]
  by_cases h : k ≤ xs.length
  · rw [Nat.min_eq_left h, List.take_of_length_le (by simp)]
  · rw [Nat.min_eq_right (by omega), List.drop_of_length_le (Nat.le_refl _), List.drop_of_length_le (by omega), List.take_nil]
theorem cut_back {α : Type} (xs : List α) (k : Nat) (h : 0 < k) : cutD xs (some (-(k : Int))) none = xs.drop (xs.length - k) := by
  unfold cutD
  have e : HT.sIx xs.length 0 (some (-(k : Int))) = xs.length - k := by
    show (if -(k : Int) < 0 then (-(k : Int) + (xs.length : Int)).toNat else min (-(k : Int)).toNat xs.length) = _
    rw [if_pos (by omega)]
    omega
  rw [e, HT.sIx_none, List.take_of_length_le (by simp)]
theorem atI_nat {α : Type} (xs : List α) (k : Nat) : atI xs (k : Int) = xs[k]? := by
  unfold atI ixN
  rw [if_pos (by omega)]
  by_cases h : k < xs.length
  · rw [if_pos (by omega)]
    simp
  · rw [if_neg (by omega), List.getElem?_eq_none (by omega)]
    rfl
theorem gSl_tS (xs : List Str) (lo hi : Option Int) : gSl (.sh (tS xs)) lo hi = some (.sh (tS (cutD xs lo hi))) := by simp [gSl, tS, tupS, cutD_map]
theorem gLen_tS (xs : List Str) : gLen (.sh (tS xs)) = some (.sh (.int xs.length)) := by simp [gLen, tS]
theorem gLen_lS (xs : List Str) : gLen (.sh (lS xs)) = some (.sh (.int xs.length)) := by simp [gLen, lS]
theorem gIx_tS {xs : List Str} {k : Nat} {x : Str} (h : xs[k]? = some x) : gIx (.sh (tS xs)) (.sh (.int (k : Int))) = some (.sh (.str x)) := by simp [gIx, tS, atI_nat, h]
theorem gIx_lS {xs : List Str} {k : Nat} {x : Str} (h : xs[k]? = some x) : gIx (.sh (lS xs)) (.sh (.int (k : Int))) = some (.sh (.str x)) := by simp [gIx, lS, atI_nat, h]
theorem gAdd_tS {xs ys : List Str} (h : xs.length + ys.length ≤ 16000000) : gAdd (.sh (tS xs)) (.sh (tS ys)) = some (.sh (tS (xs ++ ys))) := by simp [gAdd, tS, tupS, h]
theorem gTup_str (x : Str) : Den.gTup [.sh (.str x)] = some (.sh (tS [x])) := by simp [Den.gTup, shs, tS]
theorem gTup_str2 (x y : Str) : Den.gTup [.sh (.str x), .sh (.str y)] = some (.sh (tS [x, y])) := by simp [Den.gTup, shs, tS]
theorem gIx_tup (ds : List D) (i : Int) : gIx (.sh (.tup ds)) (.sh (.int i)) = (atI ds i).map O.sh := rfl
theorem atI_0 {α : Type} (a : α) (l : List α) : atI (a :: l) 0 = some a := atI_nat (a :: l) 0
theorem atI_1 {α : Type} (a b : α) (l : List α) : atI (a :: b :: l) 1 = some b := atI_nat (a :: b :: l) 1
theorem atI_2 {α : Type} (a b c : α) (l : List α) : atI (a :: b :: c :: l) 2 = some c := atI_nat (a :: b :: c :: l) 2
theorem atI_3 {α : Type} (a b c d : α) (l : List α) : atI (a :: b :: c :: d :: l) 3 = some d := atI_nat (a :: b :: c :: d :: l) 3
theorem gSl_tup (ds : List D) (lo hi : Option Int) : gSl (.sh (.tup ds)) lo hi = some (.sh (.tup (cutD ds lo hi))) := rfl
theorem gIn_tS (c : Str) (xs : List Str) : gIn (.sh (.str c)) (.sh (tS xs)) = some (.sh (.bl (decide (c ∈ xs)))) := by simp [gIn, inG_tS]
theorem gNotIn_tS (c : Str) (xs : List Str) : gNotIn (.sh (.str c)) (.sh (tS xs)) = some (.sh (.bl (!decide (c ∈ xs)))) := by simp [gNotIn, inG_tS]
theorem gIn_lS (c : Str) (xs : List Str) : gIn (.sh (.str c)) (.sh (lS xs)) = some (.sh (.bl (decide (c ∈ xs)))) := by simp [gIn, inG_lS]
theorem gNotIn_lS (c : Str) (xs : List Str) : gNotIn (.sh (.str c)) (.sh (lS xs)) = some (.sh (.bl (!decide (c ∈ xs)))) := by simp [gNotIn, inG_lS]
theorem gTup_sh (ds : List D) (h : ds.length ≤ 16000000) : Den.gTup (ds.map O.sh) = some (.sh (.tup ds)) := by simp [Den.gTup, shs_map, h]
/-- a for that leaves at an item, or goes through -/
theorem forD_ind {tg : aG} {body : aS} {R : Out → Prop} (I : List D → Store → Prop) : ∀ {ds : List D} {ρ : Store}, I ds ρ →
    (∀ d r ρ, I (d :: r) ρ → ∃ ρ1, tg d ρ = some ρ1 ∧ match body ρ1 with
      | .nx ρ2 => I r ρ2
      | .ct ρ2 => I r ρ2
      | .brk ρ2 => R (.nx ρ2)
      | o => R o) → (∀ ρ, I [] ρ → R (.nx ρ)) → R (forD tg body ds ρ)
  | [], ρ, h, _, f => f ρ h
  | d :: ds, ρ, h, s, f => by
    obtain ⟨ρ1, e, k⟩ := s d ds ρ h
    unfold forD
    rw [e]
    simp only
    cases eb : body ρ1 with
    | nx ρ2 => rw [eb] at k; exact forD_ind I k s f
    | ct ρ2 => rw [eb] at k; exact forD_ind I k s f
    | brk ρ2 => rw [eb] at k; exact k
    | ret o ρ2 => rw [eb] at k; exact k
    | exc x ρ2 => rw [eb] at k; exact k
    | stuck => rw [eb] at k; exact k
theorem aN_in {i : Nat} {ρ : Store} (h : i < ρ.length) (d : D) : aN i d ρ = some (ρ.set i (some (.sh d))) := if_pos h
/-- a comprehension that tells f of each item, the store as it was -/
theorem lcL_map {i : Nat} {ge : aE} {ρ : Store} (f : D → D) (hi : i < ρ.length) (hn : wipeS ρ [i] = ρ) : ∀ {ds : List D}, (∀ d ∈ ds, ∃ o ρ', ge (ρ.set i (some (.sh d))) = .ok o ρ' ∧ fz o = f d ∧ wipeS ρ' [i] = ρ) → lcL [i] (aN i) aYes ge ds ρ = .ok (ds.map f) ρ
  | [], _ => rfl
  | d :: ds, h => by
    obtain ⟨o, ρ', e, ef, w⟩ := h d (by simp)
    have ih := lcL_map f hi hn (ds := ds) fun x hx => h x (by simp [hx])
    rw [lcL, aN_in hi]
    simp only [aYes, Res.bind, if_true, e]
    rw [w]
    rw [ih]
    simp [ef]
/-- .. of those that pass the test -/
theorem lcL_filter {i : Nat} {tt : aT} {ge : aE} {ρ : Store} (p : D → Bool) (f : D → D) (hi : i < ρ.length) (hn : wipeS ρ [i] = ρ) : ∀ {ds : List D}, (∀ d ∈ ds, ∃ ρ1, tt (ρ.set i (some (.sh d))) = .ok (p d) ρ1 ∧ (p d = false → wipeS ρ1 [i] = ρ) ∧ (p d = true → ∃ o ρ', ge ρ1 = .ok o ρ' ∧ fz o = f d ∧ wipeS ρ' [i] = ρ)) →
    lcL [i] (aN i) tt ge ds ρ = .ok ((ds.filter p).map f) ρ
  | [], _ => rfl
  | d :: ds, h => by
    obtain ⟨ρ1, e1, hf, ht⟩ := h d (by simp)
    have ih := lcL_filter p f hi hn (ds := ds) fun x hx => h x (by simp [hx])
    rw [lcL, aN_in hi]
    simp only [Res.bind, e1]
    cases hp : p d with
    | true =>
      obtain ⟨o, ρ', e, ef, w⟩ := ht hp
      simp only [if_true, e, Res.bind]
      rw [w, ih]
      simp [hp, ef]
    | false =>
      simp only [Bool.false_eq_true, if_false]
      rw [hf hp, ih]
      simp [hp]
/-- .. while the store changes: P by what is left and what was found -/
theorem lcL_ind {vs : List Nat} {tg : aG} {tt : aT} {ge : aE} {R : Res (List D) → Prop} (I : List D → Store → List D → Prop) : ∀ {ds : List D} {ρ : Store} {acc : List D}, I ds ρ acc →
    (∀ d r ρ acc, I (d :: r) ρ acc → ∃ ρ1 b ρ2, tg d ρ = some ρ1 ∧ tt ρ1 = .ok b ρ2 ∧ if b = true then ∃ o ρ3, ge ρ2 = .ok o ρ3 ∧ I r (wipeS ρ3 vs) (acc ++ [fz o]) else I r (wipeS ρ2 vs) acc) →
    ∃ found ρ', lcL vs tg tt ge ds ρ = .ok found ρ' ∧ I [] ρ' (acc ++ found)
  | [], ρ, acc, h, _ => ⟨[], ρ, rfl, by rw [List.append_nil]; exact h⟩
  | d :: ds, ρ, acc, h, s => by
    obtain ⟨ρ1, b, ρ2, e1, e2, k⟩ := s d ds ρ acc h
    rw [lcL, e1]
    simp only [e2, Res.bind]
    cases b with
    | true =>
      rw [if_pos rfl] at k
      obtain ⟨o, ρ3, e3, k⟩ := k
      obtain ⟨found, ρ', e4, k'⟩ := lcL_ind (R := R) I k s
      refine ⟨fz o :: found, ρ', ?_, by simpa using k'⟩
      simp [e3, e4]
    | false =>
      rw [if_neg (by simp)] at k
      obtain ⟨found, ρ', e4, k'⟩ := lcL_ind (R := R) I k s
      exact ⟨found, ρ', by simp [e4], k'⟩
end Den
end
section
/-! Den, part T: plain lemmas: own lists of texts, of ints. -/
namespace Den
open PySem L2
def oS (xs : List Str) : O := .lst ((xs.map D.str).map O.sh)
def oI (xs : List Int) : O := .lst ((xs.map D.int).map O.sh)
theorem oS_nil : O.lst [] = oS [] := rfl
theorem oS_len (xs : List Str) : ((xs.map D.str).map O.sh).length = xs.length := by simp
theorem lstD_oS (xs : List Str) : lstD (oS xs) = some (xs.map D.str) := shs_map _
theorem lstD_oI (xs : List Int) : lstD (oI xs) = some (xs.map D.int) := shs_map _
theorem fz_oS (xs : List Str) : fz (oS xs) = lS xs := by rw [oS, fz, fzL_sh]; rfl
theorem fz_oI (xs : List Int) : fz (oI xs) = lI xs := by rw [oI, fz, fzL_sh]; rfl
theorem gEq_oS {xs ys : List Str} (h : okSs xs) (k : okSs ys) : gEq (oS xs) (oS ys) = some (.sh (.bl (decide (xs = ys)))) := by simp [gEq, fz_oS, eqD_lS h k]
theorem gSl_oS (xs : List Str) (lo hi : Option Int) : gSl (oS xs) lo hi = some (oS (cutD xs lo hi)) := by
  have e : gSl (oS xs) lo hi = (match tupS (oS xs) with
    | some ds => some (.sh (.tup (cutD ds lo hi)))
    | none => match lstD (oS xs) with
      | some ds => some (.lst ((cutD ds lo hi).map O.sh))
      | none => none) := rfl
  rw [e]
  have t : tupS (oS xs) = none := rfl
  rw [t, lstD_oS]
  simp [oS, cutD_map]
theorem gLen_oS (xs : List Str) : gLen (oS xs) = some (.sh (.int xs.length)) := by simp [gLen, oS]
theorem gLen_oI (xs : List Int) : gLen (oI xs) = some (.sh (.int xs.length)) := by simp [gLen, oI]
theorem gIx_oS {xs : List Str} {k : Nat} {x : Str} (h : xs[k]? = some x) : gIx (oS xs) (.sh (.int (k : Int))) = some (.sh (.str x)) := by simp [gIx, oS, atI_nat, h]
theorem gIx_oI {xs : List Int} {k : Nat} {x : Int} (h : xs[k]? = some x) : gIx (oI xs) (.sh (.int (k : Int))) = some (.sh (.int x)) := by simp [gIx, oI, atI_nat, h]
theorem gLstS_one (x : Str) : gLstS [.sh (.str x)] = some (oS [x]) := by simp [gLstS, shs, oS]
theorem gLstS_nil : gLstS [] = some (oS []) := by simp [gLstS, shs, oS]
theorem gMul_two (x : Str) : gMul (oS [x]) (.sh (.int 2)) = some (oS [x, x]) := by
  simp [gMul, oS, lstD, shs]
theorem eqvAll_ints : ∀ xs ys : List Int, PyData.eqvAll (xs.map PyData.int) (ys.map PyData.int) = decide (xs = ys)
  | [], [] => by simp [PyData.eqvAll]
  | [], _ :: _ => by simp [PyData.eqvAll]
  | _ :: _, [] => by simp [PyData.eqvAll]
  | x :: xs, y :: ys => by
    simp only [List.map_cons, PyData.eqvAll, PyData.eqv, eqvAll_ints xs ys, List.cons.injEq]
    by_cases h : x = y
    · simp [h]
    · simp [h]
theorem layAll_ints : ∀ {xs : List Int}, PyData.canLayAll0 (xs.map PyData.int) = true
  | [] => by simp [PyData.canLayAll0]
  | x :: xs => by
    simp only [List.map_cons, PyData.canLayAll0, PyData.canLay0, Bool.and_eq_true]
    exact ⟨trivial, layAll_ints⟩
theorem depthAll_ints : ∀ xs : List Int, PyData.depthAll (xs.map PyData.int) = 0
  | [] => by simp [PyData.depthAll]
  | x :: xs => by simp [PyData.depthAll, PyData.depth, depthAll_ints xs]
theorem eqD_lI (xs ys : List Int) : gEqD (lI xs) (lI ys) = some (decide (xs = ys)) := by
  simp [gEqD, scalD, lI, toPy, toPyL_ints, SeqAt.shaped, PyData.canLay0, layAll_ints, PyData.depth, depthAll_ints, PyData.eqv, eqvAll_ints]
theorem gNe_oI (xs ys : List Int) : gNe (oI xs) (oI ys) = some (.sh (.bl (!decide (xs = ys)))) := by simp [gNe, fz_oI, eqD_lI]
theorem gNe_oI_nil (xs : List Int) : gNe (oI xs) (oS []) = some (.sh (.bl (!decide (xs = [])))) := gNe_oI xs []
theorem itemsD_tS (xs : List Str) : itemsD (.sh (tS xs)) = some (xs.map D.str) := rfl
theorem itemsD_lS (xs : List Str) : itemsD (.sh (lS xs)) = some (xs.map D.str) := rfl
theorem filter_map_str (p : Str → Bool) (xs : List Str) : ((xs.map D.str).filter fun d => match d with
    | .str x => p x
    | _ => false) = (xs.filter p).map D.str := by
  induction xs with
  | nil => rfl
  | cons x xs ih =>
    simp only [List.map_cons, List.filter_cons, ih]
    cases p x <;> rfl
theorem aOp_cc {f : O → O → Option O} {a b : D} {w : O} (h : f (.sh a) (.sh b) = some w) : aOp [.ex (aC a), .ex (aC b)] (l2 f) = fun ρ => .ok w ρ := by
  funext ρ
  simp [aOp, evA, aC, Res.bind, rsv, l2, h]
theorem g106 : gPow (.sh (.int 10)) (.sh (.int 6)) = some (.sh (.int 1000000)) := by simp [gPow]
theorem g1018 : gPow (.sh (.int 10)) (.sh (.int 18)) = some (.sh (.int 1000000000000000000)) := by simp [gPow]
theorem set_same {ρ : Store} {i : Nat} (h : ρ[i]? = some none) : ρ.set i none = ρ := by
  apply List.ext_getElem?
  intro j
  by_cases e : i = j
  · subst e
    rw [List.getElem?_set_self', h]
    rfl
  · rw [List.getElem?_set_ne e]
theorem aLc_filter {src : aI} {i : Nat} {tt : aT} {ge : aE} {ρ : Store} {ds : List D} (p : D → Bool) (f : D → D) (hs : src ρ = .ok ds ρ) (hl : ds.length ≤ 16000000) (hi : ρ[i]? = some none)
    (h : ∀ d ∈ ds, ∃ ρ1, tt (ρ.set i (some (.sh d))) = .ok (p d) ρ1 ∧ (p d = false → ρ1.set i none = ρ) ∧ (p d = true → ∃ o ρ', ge ρ1 = .ok o ρ' ∧ fz o = f d ∧ ρ'.set i none = ρ)) :
    aLc src [i] (aN i) tt ge ρ = .ok (.lst (((ds.filter p).map f).map O.sh)) ρ := by
  have w : wipeS ρ [i] = ρ := set_same hi
  unfold aLc
  rw [hs]
  simp only [Res.bind]
  rw [if_pos hl, w, lcL_filter p f (List.getElem?_eq_some_iff.mp hi).1 w h]
  simp only [restS, wipeS, hi, Option.join, Option.bind, id]
  rw [set_same hi]
theorem aLc_map {src : aI} {i : Nat} {ge : aE} {ρ : Store} {ds : List D} (f : D → D) (hs : src ρ = .ok ds ρ) (hl : ds.length ≤ 16000000) (hi : ρ[i]? = some none)
    (h : ∀ d ∈ ds, ∃ o ρ', ge (ρ.set i (some (.sh d))) = .ok o ρ' ∧ fz o = f d ∧ ρ'.set i none = ρ) : aLc src [i] (aN i) aYes ge ρ = .ok (.lst ((ds.map f).map O.sh)) ρ := by
  have w : wipeS ρ [i] = ρ := set_same hi
  unfold aLc
  rw [hs]
  simp only [Res.bind]
  rw [if_pos hl, w, lcL_map f (List.getElem?_eq_some_iff.mp hi).1 w h]
  simp only [restS, wipeS, hi, Option.join, Option.bind, id]
  rw [set_same hi]
theorem aLc_fS {src : aI} {i : Nat} {tt : aT} {ge : aE} {ρ : Store} {xs : List Str} (p : Str → Bool) (hs : src ρ = .ok (xs.map D.str) ρ) (hl : xs.length ≤ 16000000) (hi : ρ[i]? = some none)
    (ht : ∀ y ∈ xs, tt (ρ.set i (some (.sh (.str y)))) = .ok (p y) (ρ.set i (some (.sh (.str y))))) (he : ∀ y ∈ xs, ge (ρ.set i (some (.sh (.str y)))) = .ok (.sh (.str y)) (ρ.set i (some (.sh (.str y))))) :
    aLc src [i] (aN i) tt ge ρ = .ok (oS (xs.filter p)) ρ := by
  have b : ∀ y : Str, (ρ.set i (some (.sh (.str y)))).set i none = ρ := fun y => by rw [List.set_set]; exact set_same hi
  have z := aLc_filter (src := src) (i := i) (tt := tt) (ge := ge) (ρ := ρ) (ds := xs.map D.str) (fun d => match d with
    | .str x => p x
    | _ => false) id hs (by rw [List.length_map]; exact hl) hi (fun d hd => by
      obtain ⟨y, hy, rfl⟩ := List.mem_map.mp hd
      exact ⟨_, ht y hy, fun _ => b y, fun _ => ⟨_, _, he y hy, rfl, b y⟩⟩)
  rw [z, filter_map_str, List.map_id]
  rfl
theorem aLc_mI {src : aI} {i : Nat} {ge : aE} {ρ : Store} {ds : List D} (f : D → Int) (hs : src ρ = .ok ds ρ) (hl : ds.length ≤ 16000000) (hi : ρ[i]? = some none)
    (he : ∀ d ∈ ds, ge (ρ.set i (some (.sh d))) = .ok (.sh (.int (f d))) (ρ.set i (some (.sh d)))) : aLc src [i] (aN i) aYes ge ρ = .ok (oI (ds.map f)) ρ := by
  have z := aLc_map (src := src) (i := i) (ge := ge) (ρ := ρ) (ds := ds) (fun d => .int (f d)) hs hl hi (fun d hd => ⟨_, _, he d hd, rfl, by rw [List.set_set]; exact set_same hi⟩)
  rw [z, oI, List.map_map (f := f)]
  rfl
theorem filter_map_int (p : Int → Bool) (xs : List Int) : ((xs.map D.int).filter fun d => match d with
    | .int x => p x
    | _ => false) = (xs.filter p).map D.int := by
  induction xs with
  | nil => rfl
  | cons x xs ih =>
    simp only [List.map_cons, List.filter_cons, ih]
    cases p x <;> rfl
theorem aLc_fI {src : aI} {i : Nat} {tt : aT} {ge : aE} {ρ : Store} {xs : List Int} (p : Int → Bool) (hs : src ρ = .ok (xs.map D.int) ρ) (hl : xs.length ≤ 16000000) (hi : ρ[i]? = some none)
    (ht : ∀ y ∈ xs, tt (ρ.set i (some (.sh (.int y)))) = .ok (p y) (ρ.set i (some (.sh (.int y))))) (he : ∀ y ∈ xs, ge (ρ.set i (some (.sh (.int y)))) = .ok (.sh (.int y)) (ρ.set i (some (.sh (.int y))))) :
    aLc src [i] (aN i) tt ge ρ = .ok (oI (xs.filter p)) ρ := by
  have b : ∀ y : Int, (ρ.set i (some (.sh (.int y)))).set i none = ρ := fun y => by rw [List.set_set]; exact set_same hi
  have z := aLc_filter (src := src) (i := i) (tt := tt) (ge := ge) (ρ := ρ) (ds := xs.map D.int) (fun d => match d with
    | .int x => p x
    | _ => false) id hs (by rw [List.length_map]; exact hl) hi (fun d hd => by
      obtain ⟨y, hy, rfl⟩ := List.mem_map.mp hd
      exact ⟨_, ht y hy, fun _ => b y, fun _ => ⟨_, _, he y hy, rfl, b y⟩⟩)
  rw [z, filter_map_int, List.map_id]
  rfl
end Den
end
section
/-! Den, part U: chained comparisons, tests of texts, comparisons with an empty row, a tuple many times. -/
namespace Den
open PySem L2 PySem.Spec PyProof.Rows
/-! ### a op b op c -/
def aChain (f f' : O → O → Option O) (ga gb gc : aE) : aE := fun ρ => (ga ρ).bind fun x ρ1 => (gb ρ1).bind fun y ρ2 => match f x y with
  | some (.sh (.bl true)) => (gc ρ2).bind fun z ρ3 => match f' y z with
    | some w => .ok w ρ3
    | none => .stuck
  | some (.sh (.bl false)) => .ok (.sh (.bl false)) ρ2
  | _ => .stuck
section
variable {X : Cx} {Γ : Gb} {P : Nat → Bool} {W : WX} {ta tb tc : TE} {ga gb gc : aE} {r r' : R2} {f f' : O → O → Option O} {a b c : Expr} {pos : Pos}
theorem sx_chain (ok : Op2 Γ r f) (ok' : Op2 Γ r' f') (h1 : Sx Γ P W ta ga) (h2 : Sx Γ P W tb gb) (h3 : Sx Γ P W tc gc) : Sx Γ P W (tChain r r' ta tb tc) (aChain f f' ga gb gc) := fun fr σ ρ T H Q s k => by
  refine h1 fr σ ρ T H _ s ((Good.bind k).imp fun x ρ1 k1 v H1 s1 => ?_)
  refine h2 fr σ ρ1 ((v, x) :: T) H1 _ s1 (((Good.bind k1).more (T' := [(v, x)])).imp fun y ρ2 k2 u H2 s2 => ?_)
  split at k2
  · rename_i e
    refine ok fr.c _ H2 v x u y _ _ s2.rs (by simp) (by simp) e fun z H3 q => ⟨true, q.bl (by simp), ?_⟩
    have s3 : SR Γ P fr σ ρ2 ((u, y) :: (v, x) :: T) H3 := ⟨s2.ok, s2.fix, q.drop⟩
    rw [if_pos rfl]
    refine h3 fr σ ρ2 _ H3 _ s3 (((Good.bind k2).more (T' := [(u, y), (v, x)])).imp fun c ρ3 k3 t H4 s4 => ?_)
    split at k3
    · rename_i w e'
      refine ok' fr.c _ H4 u y t c w _ s4.rs (by simp) (by simp) e' fun z' H5 q' => k3 z' H5 ?_
      have z : SR Γ P fr σ ρ3 ((z', w) :: ([(t, c), (u, y), (v, x)] ++ T)) H5 := ⟨s4.ok, s4.fix, q'.perm List.perm_middle.symm⟩
      exact (z.permT (T' := [(t, c), (u, y), (v, x)] ++ (z', w) :: T) List.perm_middle.symm).dropL
    · exact k3.elim
  · rename_i e
    refine ok fr.c _ H2 v x u y _ _ s2.rs (by simp) (by simp) e fun z H3 q => ⟨false, q.bl (by simp), ?_⟩
    rw [if_neg (by simp)]
    refine k2 _ H3 ?_
    have z : SR Γ P fr σ ρ2 ((.bl false, .sh (.bl false)) :: ([(u, y), (v, x)] ++ T)) H3 := ⟨s2.ok, s2.fix, (q.drop.pure fun _ => .bl false).perm List.perm_middle.symm⟩
    exact (z.permT (T' := [(u, y), (v, x)] ++ (.bl false, .sh (.bl false)) :: T) List.perm_middle.symm).dropL
  · exact k2.elim
theorem ae_chain {op op' : CmpOp} (ok : Op2 Γ r f) (ho : OpR X (compareOp op) r) (ok' : Op2 Γ r' f') (ho' : OpR X (compareOp op') r') (ha : AE X Γ P W a ta ga) (hb : AE X Γ P W b tb gb) (hc : AE X Γ P W c tc gc) (hm : lastMarks [op, op'] [b, c] = false := by with_unfolding_all rfl) :
    AE X Γ P W (.Compare a [op, op'] [b, c] pos) (tChain r r' ta tb tc) (aChain f f' ga gb gc) := ⟨pe_chain ho ho' ha.pe hb.pe hc.pe hm, sx_chain ok ok' ha.sx hb.sx hc.sx⟩
theorem at_chain {op op' : CmpOp} (ok : Op2 Γ r f) (ho : OpR X (compareOp op) r) (ok' : Op2 Γ r' f') (ho' : OpR X (compareOp op') r') (ha : AE X Γ P W a ta ga) (hb : AE X Γ P W b tb gb) (hc : AE X Γ P W c tc gc) (hm : lastMarks [op, op'] [b, c] = false := by with_unfolding_all rfl) :
    AT X Γ P W (.Compare a [op, op'] [b, c] pos) (tTest (tChain r r' ta tb tc)) (aB (aChain f f' ga gb gc)) := ⟨pt_chain ho ho' ha.pe hb.pe hc.pe hm, sxt_b (sx_chain ok ok' ha.sx hb.sx hc.sx)⟩
end
/-! ### x.isascii() and its like -/
def rStT (t : Str → Bool) : V → List V → Hp → VK → Prop := fun x xs H Q => ∃ a, x = .str a ∧ xs = [] ∧ True ∧ Q (.bl (t a)) H
def gStT (t : Str → Bool) : O → Option O
  | .sh (.str z) => some (.sh (.bl (t z)))
  | _ => none
section
variable {X : Cx} {Γ : Gb} {P : Nat → Bool} {W : WX} {ta : TE} {oa : Od} {a : Expr}
theorem ok_stT (t : Str → Bool) : Op1 Γ (fun x H Q => (∃ z, x = V.str z) ∧ rStT t x [] H Q) (gStT t) := by
  intro c R H x ox w Q h m e k
  unfold gStT at e
  split at e
  · rename_i z
    cases e
    have hx := h.str m
    exact ⟨⟨z, hx⟩, z, hx, rfl, trivial, k _ _ (h.pure fun _ => .bl _)⟩
  · cases e
theorem ae_stT {id : String} {name : Str} {apos pos : Pos} {t : Str → Bool} (slot : Slot "str" name id) (ty : typeOf (.builtin id) = pure (.type "method_descriptor")) (rule : MtR X id (rStT t)) (ha : AO X Γ P W a ta oa)
    (hbase : attributeBase a name X.env (eval a X.env) = eval a X.env := by rfl) (hline : (apos.endLine == pos.line) = true := by rfl) : AE X Γ P W (.Call (.Attribute a name apos) [] [] pos) (tM0 (rStT t) ta) (aOp [oa] (l1 (gStT t))) :=
  ⟨pe_m0 slot ty rule ha.pe hbase hline, show Sx Γ P W (fun σ H Q => ta σ H fun x H1 => (fun x H Q => (∃ z, x = V.str z) ∧ rStT t x [] H Q) x H1 Q) _ from sx_op1 (ha.sa sa_nil) (ok_stT t)⟩
theorem m_isascii : MtR X "str.isascii" (rStT Txt.isascii) := mt_isascii
theorem m_isalnum : MtR X "str.isalnum" (rStT Txt.isalnum) := mt_isalnum
theorem m_isalpha : MtR X "str.isalpha" (rStT Txt.isalpha) := mt_isalpha
theorem m_islower : MtR X "str.islower" (rStT Txt.islower) := mt_islower
end
/-! ### x == [], x != () .. whatever stands in x -/
/-- both are lists, or both are tuples; the second is empty -/
def eqE : D → D → Option Bool
  | .lst ds, .lst [] => some ds.isEmpty
  | .wls ds, .lst [] => some ds.isEmpty
  | .tup ds, .tup [] => some ds.isEmpty
  | _, _ => none
def gEqE (x y : O) : Option O := (eqE (fz x) (fz y)).map fun b => .sh (.bl b)
def gNeE (x y : O) : Option O := (eqE (fz x) (fz y)).map fun b => .sh (.bl (!b))
def rEqE (K : PySem.W.Frag) (neg : Bool) : R2 := fun x y H Q => ∃ a b xs, x = .ref a ∧ y = .ref b ∧ ((SqL K H a xs ∧ SqL K H b []) ∨ (SqT K H a xs ∧ SqT K H b [])) ∧ Q (.bl (if neg then !xs.isEmpty else xs.isEmpty)) H
section
variable {X : Cx} {Γ : Gb}
theorem szE {xs : List V} {its : List Value} (r : Vals xs its) : xs.isEmpty = its.isEmpty := by
  have := r.length
  cases xs <;> cases its <;> simp at this ⊢
theorem noneE {its : List Value} (r : Vals [] its) : its = [] := by
  have := r.length
  exact List.eq_nil_of_length_eq_zero (by simpa using this.symm)
theorem or_eqE (hu : X.A.units < cLine) : OpR X (compareOp .Eq) (rEqE X.K false) := by
  intro pins s σ H x y v u Q I rx ry h
  obtain ⟨a, b, xs, rfl, rfl, h, q⟩ := h
  cases rx
  cases ry
  rcases h with ⟨h1, h2⟩ | ⟨h1, h2⟩
  · obtain ⟨is1, r1, l1, _⟩ := I.list h1
    obtain ⟨is2, r2, l2, _⟩ := I.list h2
    have z := noneE r2
    subst z
    have ez := szE r1
    rw [if_neg (by simp), ez] at q
    cases is1 with
    | nil => exact SeqAt.eq_listAt (e := fun _ => true) l1.isList l2.isList rfl hu (fun j j1 _ => absurd j1 (by simp)) ⟨.bl true, H, I, rfl, q⟩
    | cons i is1 => exact SeqAt.eq_list_lengthsAt l1.isList l2.isList (by simp) hu ⟨.bl false, H, I, rfl, q⟩
  · obtain ⟨is1, r1, l1, _⟩ := I.tuple h1
    obtain ⟨is2, r2, l2, _⟩ := I.tuple h2
    have z := noneE r2
    subst z
    have ez := szE r1
    rw [if_neg (by simp), ez] at q
    have qq : ((List.range (min is1.toArray.size ([] : List Value).toArray.size)).all (fun _ => true) && is1.toArray.size == ([] : List Value).toArray.size) = is1.isEmpty := by cases is1 <;> simp
    exact SeqAt.eq_tupleAt (e := fun _ => true) l1 l2 hu (fun j _ j2 => absurd j2 (by simp)) (by rw [qq]; exact ⟨.bl _, H, I, rfl, q⟩)
theorem or_neE (hu : X.A.units < cLine) : OpR X (compareOp .NotEq) (rEqE X.K true) := by
  intro pins s σ H x y v u Q I rx ry h
  obtain ⟨a, b, xs, rfl, rfl, h, q⟩ := h
  cases rx
  cases ry
  rcases h with ⟨h1, h2⟩ | ⟨h1, h2⟩
  · obtain ⟨is1, r1, l1, _⟩ := I.list h1
    obtain ⟨is2, r2, l2, _⟩ := I.list h2
    have z := noneE r2
    subst z
    have ez := szE r1
    rw [if_pos rfl, ez] at q
    cases is1 with
    | nil => exact SeqAt.RcNeAt.lists (e := fun _ => true) l1.isList l2.isList rfl hu (fun j j1 _ => absurd j1 (by simp)) X.prog X.w X.xe _ ⟨.bl false, H, I, rfl, q⟩
    | cons i is1 => exact SeqAt.RcNeAt.lists_lengths l1.isList l2.isList (by simp) hu X.prog X.w X.xe _ ⟨.bl true, H, I, rfl, q⟩
  · obtain ⟨is1, r1, l1, _⟩ := I.tuple h1
    obtain ⟨is2, r2, l2, _⟩ := I.tuple h2
    have z := noneE r2
    subst z
    have ez := szE r1
    rw [if_pos rfl, ez] at q
    have qq : ((List.range (min is1.toArray.size ([] : List Value).toArray.size)).all (fun _ => true) && is1.toArray.size == ([] : List Value).toArray.size) = is1.isEmpty := by cases is1 <;> simp
    exact SeqAt.RcNeAt.tuples (e := fun _ => true) l1 l2 hu (fun j _ j2 => absurd j2 (by simp)) X.prog X.w X.xe _ (by rw [qq]; exact ⟨.bl _, H, I, rfl, q⟩)
end
section
variable {Γ : Gb}
theorem rep_seq {H : Hp} {v u : V} {d e : D} {b : Bool} (r1 : Rep Γ H v d) (r2 : Rep Γ H u e) (h : eqE d e = some b) : ∃ a c xs, v = .ref a ∧ u = .ref c ∧ ((SqL Γ.K H a xs ∧ SqL Γ.K H c []) ∨ (SqT Γ.K H a xs ∧ SqT Γ.K H c [])) ∧ xs.isEmpty = b := by
  have sz : ∀ {xs : List V} {ds : List D}, RepL Γ H xs ds → xs.isEmpty = ds.isEmpty := fun {xs ds} r => by
    have := r.len
    cases xs <;> cases ds <;> simp at this ⊢
  unfold eqE at h
  split at h
  · cases h
    cases r1 with
    | lst h1 l1 => cases r2 with
      | lst h2 l2 => cases l2; exact ⟨_, _, _, rfl, rfl, .inl ⟨.of h1, .of h2⟩, sz l1⟩
  · cases h
    cases r1 with
    | wls h1 l1 => cases r2 with
      | lst h2 l2 => cases l2; exact ⟨_, _, _, rfl, rfl, .inl ⟨h1, .of h2⟩, sz l1⟩
  · cases h
    cases r1 with
    | tup h1 l1 => cases r2 with
      | tup h2 l2 => cases l2; exact ⟨_, _, _, rfl, rfl, .inr ⟨.inl (.of h1), .inl (.of h2)⟩, sz l1⟩
  · cases h
theorem ok_eqE : Op2 Γ (rEqE Γ.K false) gEqE := by
  intro c R H x ox y oy w Q h m1 m2 e k
  simp only [gEqE, Option.map_eq_some_iff] at e
  obtain ⟨b, e, rfl⟩ := e
  obtain ⟨a, c', xs, ea, ec, hs, hb⟩ := rep_seq (h.rep m1) (h.rep m2) e
  refine ⟨a, c', xs, ea, ec, hs, ?_⟩
  rw [if_neg (by simp), hb]
  exact k _ _ (h.pure fun _ => .bl _)
theorem ok_neE : Op2 Γ (rEqE Γ.K true) gNeE := by
  intro c R H x ox y oy w Q h m1 m2 e k
  simp only [gNeE, Option.map_eq_some_iff] at e
  obtain ⟨b, e, rfl⟩ := e
  obtain ⟨a, c', xs, ea, ec, hs, hb⟩ := rep_seq (h.rep m1) (h.rep m2) e
  refine ⟨a, c', xs, ea, ec, hs, ?_⟩
  rw [if_pos rfl, hb]
  exact k _ _ (h.pure fun _ => .bl _)
/-! ### t * k, t a tuple -/
def gMulT : O → O → Option O
  | .sh (.tup ds), .sh (.int k) => if ds ≠ [] ∧ 2 ≤ k ∧ k ≤ 1000 ∧ ds.length ≤ 1000 then some (.sh (.tup (List.replicate k.toNat ds).flatten)) else none
  | _, _ => none
theorem ok_mulT : Op2 Γ (rRepT Γ.K) gMulT := by
  intro c R H x ox y oy w Q h m1 m2 e k
  unfold gMulT at e
  split at e
  · rename_i ds i
    split at e
    · cases e
      rename_i hc
      obtain ⟨a, xs, rfl, ha, had⟩ := h.tup m1 (ds := ds) rfl
      have hl := had.len
      refine ⟨a, _, xs, rfl, h.int m2, ha, fun z => hc.1 ?_, hc.2.1, hc.2.2.1, by rw [hl]; exact hc.2.2.2, fun p hp => k _ _ ?_⟩
      · rw [z] at hl
        exact List.eq_nil_of_length_eq_zero hl.symm
      · obtain ⟨S, sb, r, q⟩ := had.ex
        exact Had.newT ⟨S, sb, r.flat _, q⟩ hp
    · cases e
  · cases e
end
end Den
end
section
/-! Den, part V: repr of rows, where no repr is under way: in the law's own text. -/
namespace Den
open PySem L2 PySem.Spec PyProof.Rows
def rRepr (K : PySem.W.Frag) : List V → Hp → VK → Prop := fun vs H Q => ∃ (a : Addr) (d : PyData), vs = [.ref a] ∧ Dp K H (.ref a) d ∧ d.showable = true ∧ d.hasDict = false ∧ d.depth ≤ 60 ∧ d.shown.length ≤ sizeLine ∧ Q (.str d.shown) H
theorem cr_repr {X : Cx} (hG : X.A.guards = some []) (hu : X.A.units + 64 < cLine) : CallR X (.builtin "repr") (rRepr X.K) := by
  intro pins s σ H vs us Q I r h
  obtain ⟨a, d, rfl, hd, h1, h2, h3, h4, q⟩ := h
  rw [Vals.ref1 r]
  obtain ⟨as, rd⟩ := Dp.reads I d (.ref a) (.ref a) hd rfl
  exact repr_of_reads' rd h1 (fun e => by rw [h2] at e; cases e) hG (by omega) (fun _ _ e => e) (fun h' u tk k => ⟨.str d.shown, H, I.kept k, ⟨u, rfl⟩, q⟩) h4
def isRow : D → Bool
  | .tup _ => true
  | .lst _ => true
  | _ => false
def gRepr (o : O) : Option O := match toPy (fz o) with
  | some p => if isRow (fz o) = true ∧ p.showable = true ∧ p.hasDict = false ∧ p.depth ≤ 60 ∧ p.shown.length ≤ 16000000 then some (.sh (.str p.shown)) else none
  | none => none
theorem ok_repr {Γ : Gb} : Op1 Γ (C1 (rRepr Γ.K)) gRepr := by
  intro c R H x ox w Q h m e k
  unfold gRepr at e
  split at e
  · rename_i p ep
    split at e
    · cases e
      rename_i hc
      have rp := h.rep m
      have dp := rp.dp ep
      have hx : ∃ a, x = V.ref a := by
        have hr := hc.1
        generalize fz ox = d at rp hr
        cases rp <;> first | exact ⟨_, rfl⟩ | cases hr
      obtain ⟨a, rfl⟩ := hx
      exact ⟨a, p, rfl, dp, hc.2.1, hc.2.2.1, hc.2.2.2.1, le_line hc.2.2.2.2, k _ _ (h.pure fun _ => .str _)⟩
    · cases e
  · cases e
theorem b_repr : bootBuiltins "repr" = some (.builtin "repr") := by decide +kernel
end Den
end
section
/-! Den, part W: a def that is run where no repr is under way; the law's end for such a def. -/
namespace Den
open PySem L2 PySem.Spec PyProof.Rows
section
variable {Γ : Gb} {mg : Str → Option Value} {base : Heap}
/-- what a def keeps where no repr is under way -/
structure FnG (Γ : Gb) (mg : Str → Option Value) (base : Heap) (k : Nat) (f : Addr) (fd : FuncData) (ps : List Str) (sp : Sp) : Prop where
  go : ∀ (A : Around), A.guards = some [] → ∀ (outer : List Env) (s : Shared) (H : Hp) (args : Args) (us : List Value) (vs : List V) (Q : VK) (E : XK),
    Room k A → Env0 Γ.prog Γ.w Γ.K mg base A outer s H → BindsTo s fd args (ps.zip us) → Vals vs us → sp vs H Q E → codeAny (model Γ.prog Γ.w) A (.call (.ref f) args) (CR (L2.CX Γ.prog Γ.w) outer Γ.prog Γ.w H s Q E) s
theorem fnG_of {x qual : Str} {st : Stmt} {f : Addr} {fd : FuncData} {N ps : List Str} {k : Nat} {sp : Sp} (F : Fun Γ.K x qual st f fd) (S : FnScope N ps (defScope st)) (hlen : ∀ vs H Q E, sp vs H Q E → vs.length = ps.length)
    (hb : ∀ (cdv : Value) (A : Around), A.guards = some [] → ∀ (outer : List Env) (s : Shared) (H : Hp) (vs : List V) (Q : VK) (E : XK), Room k (A.deeper (envOfC qual (defScope st) s.heap.objs.size f cdv)) → sp vs H Q E →
      ∃ t, PSs (cxOf (L2.CX Γ.prog Γ.w) Γ.prog Γ.w Γ.K mg base N qual (defScope st) f cdv A outer s H E) (defBody st) t ∧ t { nx := fun _ H' => Q .non H', rt := Q } (L2.start N vs) H) : FnG Γ mg base (k + 1) f fd ps sp := by
  obtain ⟨oc, od, kV, doc, pm, an, cdv, ct, osl, rfl, lk, hcd⟩ := F.ex
  constructor
  intro A hG outer s H args us vs Q E room env bnd rv hs
  have kin : Γ.K.In s.heap := env.mod.kin.keeps fun b o e => (env.bs b o e).1
  have nol : s.heap.NoLimit := env.mod.nolimit.keeps fun b o e => (env.bs b o e).1
  have kinds : ∀ z ∈ ps.zip us, (defScope st).names.lookup z.1 = some .local ∨ ((defScope st).names.lookup z.1 = some .cell ∧ ((cellsFrom (s.heap.objs.size + 1) (defScope st).names []).lookup z.1).isSome = true) := by
    intro z hz
    refine (S.par z.1 (List.of_mem_zip hz).1).imp id fun q => ⟨q, ?_⟩
    exact PySem.W.cellsFrom_some _ _ _ (.inl q)
  refine codeAny_call_function room.depth (kin _ _ lk) rfl S.co S.gen rfl (PySem.W.codeRec_of kin hcd) (bnd _ _ _ _ ?_)
  refine wpAny_newFunctionEnv_cells S.kind kinds ?_
  rintro e rfl s1 inC
  refine ⟨nol.keeps inC.toInCall.keep, codeAny_func ?_⟩
  obtain ⟨t, pss, ht⟩ := hb cdv A hG outer s H vs Q E (room.deeper _) hs
  refine wpAny_mono (pss.run [] s1 (L2.start N vs) H _ (inv_start S room.hd env (hlen _ _ _ _ hs) rv inC) ht) ?_ fun _ _ z => z
  intro fl s2 hfl
  match fl, hfl with
  | .ret u, ⟨v, σ2, H2, J, r2, q2⟩ => exact ⟨v, H2, J.os, J.bare, J.base, J.hok, r2, q2⟩
  | .next, ⟨σ2, H2, J, q2⟩ => exact ⟨.non, H2, J.os, J.bare, J.base, J.hok, rfl, q2⟩
  | .brk, ⟨_, _, _, z⟩ => exact z.elim
  | .cont, ⟨_, _, _, z⟩ => exact z.elim
theorem fn_defG {x qual : Str} {st : Stmt} {f : Addr} {fd : FuncData} {N ps : List Str} {k : Nat} {pb : List Bool} {m : Nat} {body : aS} (F : Fun Γ.K x qual st f fd) (S : FnScope N ps (defScope st)) (hl : ps.length = pb.length) (hm : N.length = m)
    (hb : ∀ (cdv : Value) (A : Around), A.guards = some [] → ∀ (outer : List Env) (s : Shared) (H : Hp) (E : XK), Room k (A.deeper (envOfC qual (defScope st) s.heap.objs.size f cdv)) →
      Takes (cxOf (L2.CX Γ.prog Γ.w) Γ.prog Γ.w Γ.K mg base N qual (defScope st) f cdv A outer s H E) (fun cls d _ H => E cls d H) →
      PassesOwn (model Γ.prog Γ.w) (cxOf (L2.CX Γ.prog Γ.w) Γ.prog Γ.w Γ.K mg base N qual (defScope st) f cdv A outer s H E).A (cxOf (L2.CX Γ.prog Γ.w) Γ.prog Γ.w Γ.K mg base N qual (defScope st) f cdv A outer s H E).env (cxOf (L2.CX Γ.prog Γ.w) Γ.prog Γ.w Γ.K mg base N qual (defScope st) f cdv A outer s H E).xe →
      ∃ t, AL (cxOf (L2.CX Γ.prog Γ.w) Γ.prog Γ.w Γ.K mg base N qual (defScope st) f cdv A outer s H E) Γ (kp pb) (fun cls d _ H => E cls d H) (defBody st) t body) :
    FnG Γ mg base (k + 1) f fd ps (spD Γ pb.length (aDef pb m body)) := by
  refine fnG_of F S (fun vs H Q E h => by rw [h.1, hl]) fun cdv A hG outer s H vs Q E hr h => ?_
  obtain ⟨t, at_⟩ := hb cdv A hG outer s H E hr (takes_of rfl rfl rfl rfl) (passes_of rfl)
  refine ⟨t, at_.pss, ?_⟩
  obtain ⟨hv, e, os, ho, r, k1⟩ := h
  have ent := enter_ok (R := []) hv ho (by rw [List.append_nil]; exact r)
  rw [List.append_nil] at ent
  obtain ⟨sl, sr⟩ := start_slots (vs := vs) (os := pre pb os) (m := m - pb.length) (by rw [pre_len ho, hv])
  have st0 : L2.start N vs = vs.map some ++ List.replicate (m - pb.length) none := by
    unfold L2.start
    rw [hm, hv]
  have s0 : SR Γ (kp pb) ⟨e, L2.start N vs⟩ (L2.start N vs) ((pre pb os).map some ++ List.replicate (m - pb.length) none) (keepT pb vs os) H := by
    rw [st0]
    exact ⟨sl, fun j _ => rfl, by rw [sr]; exact ent⟩
  have back : ∀ (X : List (V × O)) (σ : L2.St) (ρ : Store) (H' : Hp) (os' : List O), SR Γ (kp pb) ⟨e, L2.start N vs⟩ σ ρ (X ++ keepT pb vs os) H' → outs pb os ρ = some os' → RS Γ e (X ++ vs.zip os') H' := by
    intro X σ ρ H' os' q eo
    obtain ⟨Y, p⟩ := leave_ok q.ok hv (fun j hj => by
      have hj' : kp pb j = true := by
        show pb.getD j false = true
        rw [List.getD_eq_getElem?_getD, hj]
        rfl
      rw [q.fix j hj']
      show (L2.start N vs)[j]? = _
      rw [st0]
      have hlt : j < vs.length := by
        rw [hv]
        exact (List.getElem?_eq_some_iff.mp hj).1
      rw [List.getElem?_append_left (by rw [List.length_map]; exact hlt), List.getElem?_map]) eo
    have q1 : RS Γ e (Y ++ (X ++ vs.zip os')) H' := q.rs.perm (by
      refine (List.perm_append_comm_assoc _ _ _).trans ?_
      refine (List.Perm.append_left _ p).trans ?_
      exact List.perm_append_comm_assoc _ _ _)
    exact q1.dropL
  refine at_.sx ⟨e, L2.start N vs⟩ (L2.start N vs) _ (keepT pb vs os) H _ s0 ?_
  unfold aDef at k1
  rw [if_pos ho] at k1
  cases eb : body ((pre pb os).map some ++ List.replicate (m - pb.length) none) with
  | nx ρ =>
    rw [eb] at k1
    simp only at k1
    cases eo : outs pb os ρ with
    | none => rw [eo] at k1; exact k1.elim
    | some os' =>
      rw [eo] at k1
      exact fun σ H' q => k1.2 _ _ ((back [] σ ρ H' os' q eo).pure fun _ => .non)
  | brk ρ => rw [eb] at k1; exact k1.elim
  | ct ρ => rw [eb] at k1; exact k1.elim
  | ret o ρ =>
    rw [eb] at k1
    simp only at k1
    cases eo : outs pb os ρ with
    | none => rw [eo] at k1; exact k1.elim
    | some os' =>
      rw [eo] at k1
      exact fun σ v H' q => k1.2 _ _ (back [(v, o)] σ ρ H' os' q eo)
  | exc x ρ =>
    rw [eb] at k1
    simp only at k1
    cases eo : outs pb os ρ with
    | none => rw [eo] at k1; exact k1.elim
    | some os' =>
      rw [eo] at k1
      refine fun σ cls d H' q => k1.2 cls d H' ?_
      obtain ⟨ec, q⟩ := q
      refine ⟨ec, ?_⟩
      obtain ⟨xc, xfs⟩ := x
      cases xfs with
      | none => exact ⟨q.1, back [] σ ρ H' os' q.2 eo⟩
      | some fs =>
        obtain ⟨dd, e1, q⟩ := q
        exact ⟨dd, e1, back [(.ref dd, .sh (.xd fs))] σ ρ H' os' q eo⟩
  | stuck => rw [eb] at k1; exact k1.elim
/-! ### the law's end -/
theorem law_goes {P : Program} {w : World} {K : PySem.W.Frag} {cls : Nat → Addr} {mg mb : Str → Option Value} {k : Nat} {fa a : Addr} {fd : FuncData} {s : Shared} {vs : List Value} {ns : List Int} {den : aF}
    (KX : K.In s.heap) (n1 : s.heap.Ns mainGlobals mg) (n2 : s.heap.Ns builtinsNs mb) (n3 : ∀ x : Str, x ≠ "__name__" → mb x = bootBuiltins x) (nl : s.heap.NoLimit) (gs : s.gens = #[])
    (obj : s.heap.get? a = some { cls := .type "list", data := .seq vs.toArray }) (isI : IntsAre vs ns) (len : ns.length ≤ 63) (room : Room k callerA)
    (F : ∀ base : Heap, K.In base → base.Ns mainGlobals mg → FnG ⟨P, w, K, cls⟩ mg base k fa fd ["script"] (spD ⟨P, w, K, cls⟩ 1 den)) (bnd : ∀ (s : Shared) (u : Value), BindsTo s fd ⟨[u], []⟩ [("script", u)])
    (yes : ∃ os', den [.sh (.wls (ns.map D.int))] = .ret (.sh (.bl true)) os' ∧ os'.length = 1) :
    codeAny (model P w) callerA (.call (.ref fa) ⟨[.ref a], []⟩) (fun r s' => r = .ok (.ret (.bool true)) ∧ OldK s.heap s'.heap ∧ s'.os = s.os ∧ AllBare s'.gens) s := by
  have vals := vals_ints isI
  have sz : ns.length ≤ sizeLine := by rw [sizeLine_eq]; omega
  have eqlen := isI.length
  -- what is tracked: the script, where the written part does not hold it
  obtain ⟨H, only, sq, hok, ha, hk⟩ : ∃ H : Hp, Only H ∧ SqL K H a (ns.map V.int) ∧ HOk P w H s.heap ∧ (∀ b, H b ≠ none → b = a) ∧ (H a ≠ none → K.lookup a = none) := by
    cases e : K.lookup a with
    | some o =>
      have q := KX a o e
      rw [obj] at q
      cases q
      exact ⟨fun _ => none, fun _ => .inl rfl, .inr ⟨_, vs.toArray, _, e, rfl, rfl, rfl, by rw [List.size_toArray, eqlen]; exact sz, by simpa using vals⟩, (fun b u z => by cases (show (none : Option HO) = some u from z)), fun b z => (z rfl).elim, fun z => (z rfl).elim⟩
    | none =>
      refine ⟨fun b => if b = a then some (.frz { cls := .type "list", data := .seq vs.toArray } (.lst (ns.map V.int))) else none, fun b => ?_, .inl (.inr ⟨_, if_pos rfl⟩), fun b u z => ?_, fun b z => ?_, fun _ => rfl⟩
      · by_cases q : b = a
        · exact .inr ⟨_, _, if_pos q⟩
        · exact .inl (if_neg q)
      · by_cases q : b = a
        · subst q
          cases (if_pos rfl).symm.trans z
          exact ⟨obj, by rw [List.length_map]; exact sz, vs, _, vals, obj⟩
        · cases (if_neg q).symm.trans z
      · by_cases q : b = a
        · exact q
        · exact (z (if_neg q)).elim
  have free : ∀ {b : Addr} {o : Obj} {es : Array DictEntry} {ep : Nat}, s.heap.get? b = some o → o.data = .dict es ep → H b = none := by
    intro b o es ep e d
    cases q : H b with
    | none => rfl
    | some u =>
      have z := ha b (by rw [q]; simp)
      subst z
      rw [obj] at e
      cases e
      cases d
  have ns' : ∀ {b : Addr} {m : Str → Option Value}, s.heap.Ns b m → (hidT s.heap H).Ns b m := fun {b m} h => by
    obtain ⟨o, es, ep, e, d, r⟩ := h
    exact ⟨o, es, ep, hidT_get e (free e d), d, r⟩
  have kin : K.In (hidT s.heap H) := fun b o e => hidT_get (KX b o e) (by
    cases q : H b with
    | none => rfl
    | some u =>
      have z := ha b (by rw [q]; simp)
      subst z
      rw [hk (by rw [q]; simp)] at e
      cases e)
  obtain ⟨ml, l1, l2⟩ := nl
  have env : Env0 P w K mg (hidT s.heap H) callerA [] s H :=
    ⟨rfl, ⟨kin, ns' n1, ⟨mb, ns' n2, n3⟩, ml, ns' l1, l2⟩, fun b o e => of_hidT e, Nat.le_of_eq (hidT_size _ _), trivial, fun b hb => (by cases (show b ∈ ([] : List Addr) from hb)), hok, .of_eq gs⟩
  refine codeAny_mono ((F _ kin (ns' n1)).go callerA rfl [] s H ⟨[.ref a], []⟩ [.ref a] [.ref a] _ _ room env (bnd s (.ref a)) (.cons rfl .nil) (sp_law only sq yes)) ?_
  intro r s2 h
  match r, h with
  | .error e, h => exact (cx_none h).elim
  | .ok .next, h => exact False.elim h
  | .ok .brk, h => exact False.elim h
  | .ok .cont, h => exact False.elim h
  | .ok (.ret u), ⟨v, H2, os2, bare, un, hok2, rv, q⟩ =>
    have q' : v = .bl true := q
    subst q'
    have ru : u = Value.bool true := rv
    subst ru
    refine ⟨rfl, OldK.of_keep fun b o e => ?_, os2, bare⟩
    cases q : H b with
    | none => exact un.keep b o e q (fun z => by cases (show b ∈ ([] : List Addr) from z)) (by simp)
    | some u =>
      rcases only b with z | ⟨ob, xs, z⟩
      · rw [q] at z; cases z
      · obtain ⟨e1, _⟩ := hok b _ z
        obtain ⟨e2, _⟩ := hok2 b _ (un.frzs b ob _ z)
        rw [e] at e1
        cases e1
        exact e2
theorem walk_denG {l : PySem.W.OpenLaw} {k : Nat} {q : Program} {loose : List Str} {XP : (Str → Option Value) → Heap → Prop} {YP : World → Heap → Prop} {d : DefRec} {K : Params → PySem.W.Frag} {den : aF} {cls : Nat → Addr} (hn : l.most = some 63) (hdf : d.params.defaults = []) (hr : Room k callerA)
    (hY : ∀ (w : World) (h : Heap), YP w h → (K w.params).In h)
    (F : ∀ (w : World) (mg : Str → Option Value) (fa : Addr) (h : Heap), (K w.params).In h → h.Ns mainGlobals mg → mg d.name = some (.ref fa) →
      ∃ fd : FuncData, (∀ (s : Shared) (u : Value), BindsTo s fd ⟨[u], []⟩ [("script", u)]) ∧ ∀ base : Heap, (K w.params).In base → base.Ns mainGlobals mg → FnG ⟨l.prog, w, K w.params, cls⟩ mg base k fa fd ["script"] (spD ⟨l.prog, w, K w.params, cls⟩ 1 den))
    (hL : ∀ ns : List Int, ns.length ≤ 63 → ∃ os', den [.sh (.wls (ns.map D.int))] = .ret (.sh (.bl true)) os' ∧ os'.length = 1) :
    PySem.W.WalkO q loose XP YP l.row.toRowW d [] (fun f vs => PySem.call f vs) := by
  refine Att.attach_call hn hdf ?_
  intro w s₀ s mg mb fa o pm cd doc a vs ns G Y ho hd hcd hmg obj isI len gs
  obtain ⟨fd, hb, hF⟩ := F w mg fa _ (hY w _ Y) G.T.g hmg
  exact law_goes (hY w _ Y) G.T.g G.T.b G.T.builtins G.T.nolimit gs obj isI len hr hF hb (hL ns len)
end
end Den
end
section
/-! Den, part X: sets of keys of a kind, with an order to be walked; sorted(set(texts)). -/
namespace Den
open PySem L2 PySem.Spec PyProof.Rows
section
variable {P : Program} {w : World} {KT : Type} [DecidableEq KT] [Inhabited KT] (knd : KeyKind P w KT)
open Classical in
/-- the key that an entry holds -/
noncomputable def keyW (e : Int × Value) : KT := if h : ∃ k, knd.is k e.2 = true then h.choose else default
theorem keyW_is {e : Int × Value} {k : KT} (h : knd.is k e.2 = true) : keyW knd e = k := by
  have hx : ∃ k, knd.is k e.2 = true := ⟨k, h⟩
  unfold keyW
  rw [dif_pos hx]
  exact knd.inj _ _ _ hx.choose_spec h
theorem keyW_mem {l : List (Int × Value)} (g : ElemsOf knd l) (k : KT) : k ∈ l.map (keyW knd) ↔ ∃ e ∈ l, knd.is k e.2 = true := by
  rw [List.mem_map]
  constructor
  · rintro ⟨e, he, rfl⟩
    obtain ⟨⟨k, hk, _⟩, _⟩ := g e he
    exact ⟨e, he, by rw [keyW_is knd hk]; exact hk⟩
  · rintro ⟨e, he, hk⟩
    exact ⟨e, he, keyW_is knd hk⟩
/-- the set at a holds the keys L, each once -/
def SetW (h : Heap) (a : Addr) (L : List KT) : Prop :=
  ∃ o es ep t, h.get? a = some o ∧ o.ExactSet ∧ o.data = .set es ep t ∧ ElemsOf knd es.toList ∧ (es.toList.map (keyW knd)).Perm L ∧ L.Nodup ∧ es.size < scanBound ∧ t.fits es.size = true ∧ Ris t.place.toList ∧
    (w.params.followText "set-order" = true ∨ t.led = true)
variable {knd}
theorem SetW.at {h h' : Heap} {a : Addr} {L : List KT} (R : SetW knd h a L) (k : ∀ o, h.get? a = some o → h'.get? a = some o) : SetW knd h' a L := by
  obtain ⟨o, es, ep, t, go, rest⟩ := R
  exact ⟨o, es, ep, t, k o go, rest⟩
variable {A : Around} {E : Value → Shared → Prop} {s : Shared} {a : Addr} {L : List KT}
theorem setW_tail {g : Bool → Sem Unit} (gq : ∀ (b : Bool) (s₁ : Shared) (Z : Unit → Shared → Prop), Z () s₁ → wpAny (model P w) A (g b) Z E s₁) {o : Obj} {us vs : Array (Int × Value)} {ep : Nat} {t tt : SetTable}
    (go : s.heap.get? a = some o) (ex : o.ExactSet) (od : o.data = .set us ep t) (el : ElemsOf knd vs.toList) (pm : (vs.toList.map (keyW knd)).Perm L) (nd : L.Nodup) (few : vs.size < scanBound) (fit : tt.fits vs.size = true) (ris : Ris tt.place.toList)
    (led : w.params.followText "set-order" = true ∨ tt.led = true) {dm : Bool} {R : Option Bool → Shared → Prop} (fin : ∀ h', Heap.SameBut a s.heap h' → SetW knd h' a L → R (some true) { s with heap := h' }) :
    wpAny (model P w) A (do { storeSet a vs tt; if (!dm && tt.tooFull) = true then do { g (relayAll tt vs (SetTable.grown vs.size)).2.2; storeSet a (relayAll tt vs (SetTable.grown vs.size)).1 (relayAll tt vs (SetTable.grown vs.size)).2.1; pure (some true) } else pure (some true) }) R E s := by
  refine wpAny_bind (wpAny_storeSet_of go od ?_ (fits_of_scanBound few))
  have go1 := store_at (es' := vs) (t' := tt) go od
  have sb := Heap.SameBut.update s.heap a (Obj.putSet vs tt)
  split
  · have pm2 := relayAll_perm tt vs (SetTable.grown vs.size)
    have fit2 := relayAll_fits tt vs (SetTable.grown vs.size)
    have ris2 := relayAll_ris tt vs (SetTable.grown vs.size)
    have led2 := relayAll_led tt vs (SetTable.grown vs.size)
    generalize relayAll tt vs (SetTable.grown vs.size) = Y at pm2 fit2 ris2 led2 ⊢
    obtain ⟨ws, t3, gave⟩ := Y
    dsimp only at pm2 fit2 ris2 led2 ⊢
    have sz : ws.size = vs.size := by rw [← Array.length_toList, pm2.length_eq, Array.length_toList]
    refine wpAny_bind (gq _ _ _ ?_)
    refine wpAny_bind (wpAny_storeSet_of go1 rfl ?_ (fits_of_scanBound (by rw [sz]; exact few)))
    have go2 := store_at (es' := ws) (t' := t3) go1 rfl
    refine wpAny_pure (fin _ (sb.trans (Heap.SameBut.update _ a _)) ?_)
    exact ⟨_, ws, _, t3, go2, ex, rfl, fun e he => el e (pm2.mem_iff.mp he), (pm2.map _).trans pm, nd, by rw [sz]; exact few, fit2, ris2, led.imp id fun z => by rw [led2]; exact z⟩
  · exact wpAny_pure (fin _ sb ⟨_, vs, _, tt, go1, ex, rfl, el, pm, nd, few, fit, ris, led⟩)
def addK (L : List KT) (k : KT) : List KT := if k ∈ L then L else k :: L
theorem setW_add {k : KT} {v : Value} {Q : Bool → Shared → Prop} (R : SetW knd s.heap a L) (room : L.length + 1 < scanBound) (hk : knd.is k v = true) (sc : v.scannable = true)
    (fin : ∀ h' b, Heap.SameBut a s.heap h' → SetW knd h' a (addK L k) → Q b { s with heap := h' }) : wpAny (model P w) A (setAddHashed a v (knd.hash k)) Q E s := by
  obtain ⟨o, us, ep, t, go, ex, od, el, pm, nd, few, fit, ris, led⟩ := R
  have szL : us.size = L.length := by rw [← pm.length_eq, List.length_map, Array.length_toList]
  unfold setAddHashed setAddHashedIn
  refine wpAny_holding (wpAny_bind (wpAny_setState_of go od fit ?_))
  dsimp only
  rw [byScan_of sc few el]
  simp only [↓reduceIte]
  unfold setAddByScan
  refine wpAny_bind ?_
  refine wpAny_bind (wpAny_rule ?_)
  refine wpAny_bind (wpAny_setScan_of hk go od fit el ?_)
  cases hf : List.findIdx? (fun e => knd.is k e.2) us.toList with
  | some j =>
    dsimp only
    obtain ⟨hj, pj, _⟩ := List.findIdx?_eq_some_iff_getElem.mp hf
    have hkL : k ∈ L := pm.mem_iff.mp ((keyW_mem knd el k).mpr ⟨us.toList[j], List.getElem_mem hj, pj⟩)
    refine wpAny_pure (wpAny_pure ?_)
    refine fin s.heap false (Heap.SameBut.refl a s.heap) ?_
    unfold addK
    rw [if_pos hkL]
    exact ⟨o, us, ep, t, go, ex, od, el, pm, nd, few, fit, ris, led⟩
  | none =>
    dsimp only
    have hkL : k ∉ L := fun z => by
      obtain ⟨e, he, q⟩ := (keyW_mem knd el k).mp (pm.mem_iff.mpr z)
      have c := List.findIdx?_eq_none_iff.mp hf e he
      rw [q] at c
      cases c
    have way : ∀ (b : Bool) {s₁ : Shared} {Z : Unit → Shared → Prop}, Z () s₁ → wpAny (model P w) A (match b with | true => rule "set.scan.the-table-gave-way" | false => pure ()) Z E s₁ := by
      intro b s₁ Z q
      cases b
      · exact wpAny_pure q
      · exact wpAny_rule q
    have pm1 := layNew_perm t us (knd.hash k) v
    have fit1 := layNew_fits t us (knd.hash k) v
    have ris1 := layNew_ris t us (knd.hash k) v ris
    have led1 := layNew_led t us (knd.hash k) v
    generalize layNew t us (knd.hash k) v = Y at pm1 fit1 ris1 led1 ⊢
    obtain ⟨vs, t1, dm, gave⟩ := Y
    dsimp only at pm1 fit1 ris1 led1 ⊢
    rw [Array.toList_push] at pm1
    have pc : vs.toList.Perm ((knd.hash k, v) :: us.toList) := pm1.trans (List.perm_append_singleton _ _)
    have kk : keyW knd (knd.hash k, v) = k := keyW_is knd hk
    have pk : (vs.toList.map (keyW knd)).Perm (addK L k) := by
      have := pc.map (keyW knd)
      rw [List.map_cons, kk] at this
      unfold addK
      rw [if_neg hkL]
      exact this.trans (pm.cons k)
    have ndk : (addK L k).Nodup := by
      unfold addK
      rw [if_neg hkL]
      exact List.nodup_cons.mpr ⟨hkL, nd⟩
    have el1 : ElemsOf knd vs.toList := fun e he => by
      rcases List.mem_cons.mp (pc.mem_iff.mp he) with z | z
      · rw [z]; exact ⟨⟨k, hk, rfl⟩, sc⟩
      · exact el e z
    have few1 : vs.size < scanBound := by
      have : vs.size = us.size + 1 := by rw [← Array.length_toList, pc.length_eq, List.length_cons, Array.length_toList]
      omega
    have ledX : w.params.followText "set-order" = true ∨ t1.led = true := led.imp id fun z => by rw [led1]; exact z
    refine wpAny_bind (way _ ?_)
    split
    · refine wpAny_bind ?_
      rw [hashByValue_scannable 8 sc]
      refine wpAny_pure ?_
      refine setW_tail ?_ go ex od el1 pk ndk few1 ?_ ?_ ?_ ?_
      · intro b s₁ Z q; cases b <;> first | exact wpAny_pure q | exact wpAny_rule q
      · first | (split <;> first | exact fit1 | exact SetTable.fits_plain_off fit1) | exact fit1
      · first | (split <;> exact ris1) | exact ris1
      · first | (split <;> exact ledX) | exact ledX
      · intro h' sb r; dsimp only; exact wpAny_pure (fin h' true sb r)
    · refine wpAny_bind (wpAny_pure ?_)
      simp only [↓reduceIte]
      refine setW_tail ?_ go ex od el1 pk ndk few1 fit1 ris1 ledX ?_
      · intro b s₁ Z q; cases b <;> first | exact wpAny_pure q | exact wpAny_rule q
      · intro h' sb r; dsimp only; exact wpAny_pure (fin h' true sb r)
end
end Den
end
section
/-! Den, part Y: set(xs) of a list, of a tuple. -/
namespace Den
open PySem L2 PySem.Spec PyProof.Rows
section
variable {P : Program} {w : World} {KT : Type} [DecidableEq KT] [Inhabited KT] {knd : KeyKind P w KT} {A : Around} {E : Value → Shared → Prop} {s : Shared}
theorem addK_len (L : List KT) (k : KT) : (addK L k).length ≤ L.length + 1 := by
  unfold addK
  split
  · omega
  · simp
theorem addAll_len : ∀ (ks L : List KT), (ks.foldl addK L).length ≤ L.length + ks.length
  | [], L => by simp
  | k :: ks, L => by
    have h1 := addAll_len ks (addK L k)
    have h2 := addK_len L k
    rw [List.foldl_cons, List.length_cons]
    omega
theorem setW_loop {I : Addr} {fp wr : List Addr} {G : Array GenState → Array GenState → Prop} {n : Nat} {Pv : Nat → Value → Prop} {St : Nat → Shared → Prop} {R : Result → Shared → Prop} (W : WalksS P w A.in1 I fp wr G n Pv St) (S : Addr) (away : S ∉ fp) (ks : List KT)
    (hn : n = ks.length) (few : ks.length + 1 < scanBound) (val : ∀ i v, Pv i v → ∃ k, ks[i]? = some k ∧ knd.is k v = true ∧ v.scannable = true) :
    ∀ (m i : Nat) (s : Shared), n - i = m → i ≤ n → St i s → SetW knd s.heap S ((ks.take i).foldl addK []) → (∀ s', Moved (S :: wr) G s s' → SetW knd s'.heap S (ks.foldl addK []) → R (.ok (.ret .none)) s') →
      codeAny (model P w) A (.builtin "set.update.loop" ⟨[.ref S, .ref I], []⟩) R s := by
  have hw : S ∉ wr := fun z => away (W.sub _ z)
  have up : ∀ b ∈ wr, b ∈ S :: wr := fun b z => List.mem_cons_of_mem _ z
  intro m
  induction m with
  | zero =>
    intro i s hm hi st hS fin
    obtain rfl : i = n := by omega
    refine codeAny_builtin F.entry_set_update_loop ?_
    rw [Around.under_plainId F.plain_set_update_loop _]
    change wpAny _ A.in1 (pyNext (.ref I) >>= _) _ _ s
    refine wpAny_bind (W.done s _ _ st fun s2 mv => ?_)
    change wpAny _ A.in1 (ret Value.none) _ _ s2
    rw [List.take_of_length_le (by omega)] at hS
    exact wpAny_pure (fin s2 (mv.mono up) (hS.at fun o e => mv.heap S o hw e))
  | succ m ih =>
    intro i s hm hi st hS fin
    have lt : i < n := by omega
    refine codeAny_builtin F.entry_set_update_loop ?_
    rw [Around.under_plainId F.plain_set_update_loop _]
    change wpAny _ A.in1 (pyNext (.ref I) >>= _) _ _ s
    refine wpAny_bind (W.item i s _ _ lt st fun v s2 pv st2 mv => ?_)
    obtain ⟨k, ek, hk, sc⟩ := val i v pv
    have hS2 : SetW knd s2.heap S ((ks.take i).foldl addK []) := hS.at fun o e => mv.heap S o hw e
    change wpAny _ A.in1 (holding [v] (setAdd S v) >>= _) _ _ s2
    refine wpAny_bind (wpAny_holding ?_)
    unfold setAdd
    refine wpAny_holding ?_
    refine wpAny_bind (knd.pyHash hk ?_)
    have room : ((ks.take i).foldl addK []).length + 1 < scanBound := by
      have := addAll_len (ks.take i) []
      rw [List.length_take] at this
      simp only [List.length_nil] at this
      omega
    refine setW_add (s := { s2 with toks := s2.toks + 1 }) hS2 room hk sc fun h' b sb hS3 => ?_
    have e3 : addK ((ks.take i).foldl addK []) k = (ks.take (i + 1)).foldl addK [] := by
      rw [List.take_add_one, ek, List.foldl_append]
      rfl
    rw [e3] at hS3
    refine wpAny_pure ⟨plainId_quiet F.plain_set_update_loop _, ih (i + 1) _ (by omega) lt (W.frame _ s2 _ _ st2 (Nat.le_succ _) fun b hb o e => ?_) hS3 fun s4 mv4 hS4 => ?_⟩
    · rw [sb.2 b (fun z : b = S => away (by rw [← z]; exact hb))]; exact e
    · refine fin s4 (Moved.trans W.gtrans ((mv.mono up).then_heap (Nat.le_succ _) fun b o hb e => ?_) mv4) hS4
      rw [sb.2 b (fun z : b = S => hb (by rw [z]; exact List.mem_cons_self))]; exact e
theorem setW_fresh {h : Heap} {a : Addr} (go : h.get? a = some { cls := .type "set", dict := none, data := .set #[] 0 (.fresh 0 0 (!w.params.followText "set-order")) }) : SetW knd h a [] := by
  refine ⟨_, #[], 0, _, go, ⟨rfl, rfl, rfl⟩, rfl, (fun e he => by simp at he), (by simp), .nil, (by decide), (by rfl), List.Pairwise.nil, ?_⟩
  show _ ∨ (!w.params.followText "set-order") = true
  cases w.params.followText "set-order" <;> simp

set_option maxHeartbeats 3200000 in
theorem call_setW_list {l : Addr} {items : Array Value} (ks : List KT) {Q : Value → Shared → Prop} (cold : A.handled = none) (row : s.heap.IsList l items) (val : ∀ (i : Nat) (v : Value), items[i]? = some v → ∃ k, ks[i]? = some k ∧ knd.is k v = true ∧ v.scannable = true) (szs : items.size = ks.length)
    (few : ks.length + 1 < scanBound) (fin : ∀ (h' : Heap) (tk : Nat), SetW knd h' s.heap.objs.size (ks.foldl addK []) → (∀ b o, s.heap.get? b = some o → h'.get? b = some o) → Q (.ref s.heap.objs.size) { s with heap := h', toks := tk }) :
    wpAny (model P w) A (call (.type "set") [.ref l]) Q E s := by
  obtain ⟨so, hso⟩ : ∃ so : Obj, so = { cls := .type "set", dict := none, data := .set #[] 0 (.fresh 0 0 (!w.params.followText "set-order")) } := ⟨_, rfl⟩
  obtain ⟨c, tl, hmro⟩ := F.called_set.mro
  have h_made := F.called_set.made
  have h_sub := F.called_set.sub
  refine wpAny_call (codeAny_of_tree ?_)
  change wpAny _ _ (callAny (.type "set") _) _ _ _
  refine wpAny_pure ⟨Code.quiet_builtin _ (by decide +kernel), codeAny_builtin F.entry_type_call ?_⟩
  rw [Around.under_plain (weight_type_call_type "set" [.ref l] []) rfl]
  have h_1 := F.called_set.notType
  have h_2 := F.called_set.canCreate
  have h_3 := F.typeCall_set_1 (.ref l)
  repeat (any_goals (first | assumption | wp_step))
  refine codeAny_mono (code_set_led1 (.ref l) (E := E) (Q₁ := fun obj z => obj = .ref s.heap.objs.size ∧ z = { s with heap := s.heap.push so }) ⟨rfl, by rw [hso]⟩) ?_
  intro r z hr
  match r, hr with
  | .error e, hr => exact hr
  | .ok .next, hr => exact hr.elim
  | .ok .brk, hr => exact hr.elim
  | .ok .cont, hr => exact hr.elim
  | .ok (.ret obj), hr =>
    obtain ⟨rfl, rfl⟩ := hr
    have hS : (s.heap.push so).get? s.heap.objs.size = some so := Heap.get?_push_size _ (by rw [hso]; rfl)
    have hT : Shared.TypeIs { s with heap := s.heap.push so } (.ref s.heap.objs.size) "set" := ⟨so, hS, by rw [hso]⟩
    have h_4 := F.called_set.init.lookup
    have h_5 := F.called_set.init.bind (.ref s.heap.objs.size)
    repeat (any_goals (first | assumption | wp_step))
    refine codeAny_mono (codeAny_call_builtin (R := wants (fun r z => r = .none ∧ ∃ h' tk, z = { s with heap := h', toks := tk } ∧ SetW knd h' s.heap.objs.size (ks.foldl addK []) ∧ ∀ b o, s.heap.get? b = some o → h'.get? b = some o) E) F.called_set.init.plain F.entry_set_init (check_set_init_1 hT ?_)) ?_
    · obtain ⟨⟨_, od, _, osl⟩, hol, hcl, nl, hdl⟩ := row
      simp only at hcl hdl
      subst hcl hdl
      have hol2 : (s.heap.push so).get? l = some { cls := .type "list", dict := od, data := .seq items nl, slots := osl } := Heap.get?_push_of_some _ hol
      have h_6 := F.sub_list_set
      have h_7 := F.sub_list_frozenset
      have h_8 : (Value.type "list" == Value.type "dict") = false := by decide
      have row2 : (s.heap.push so).IsList l items := ⟨_, hol2, rfl, nl, rfl⟩
      have lS : l < s.heap.objs.size := Heap.lt_size hol
      have szp : (s.heap.push so).objs.size = s.heap.objs.size + 1 := Heap.size_push ..
      have lI : l ≠ (s.heap.push so).objs.size := by rw [szp]; exact Nat.ne_of_lt (Nat.lt_succ_of_lt lS)
      have away : s.heap.objs.size ∉ [(s.heap.push so).objs.size, l] := by
        rw [szp]
        simp only [List.mem_cons, List.not_mem_nil, or_false, not_or]
        exact ⟨Nat.ne_of_lt (Nat.lt_succ_self _), Nat.ne_of_gt lS⟩
      subst hso
      unfold Builtin.«set.__init__» noKeywords Builtin.Frozenset.updateFrom
      generalize hPI : pyIter = PI
      wp_walk
      subst hPI
      refine wpAny_pyIter_list row2 ?_
      refine wpAny_bind (wpAny_runValue ?_)
      have cold3 : A.in1.in1.in1.handled = none := by simp [cold]
      refine setW_loop ((Walks.list cold3 _ l lI items).toS) s.heap.objs.size away ks szs few val (items.size - 0) 0 _ (by omega) (Nat.zero_le _) ⟨⟨_, Heap.get?_push_size _ rfl, rfl, rfl⟩, (row2.push _)⟩ ?_ ?_
      · rw [List.take_zero]
        exact setW_fresh (Heap.get?_push_of_some _ hS)
      · intro z mv hS2
        obtain ⟨h', g2, d', tk', os'⟩ := z
        obtain rfl : g2 = s.gens := mv.gens
        obtain rfl : d' = s.drawn := mv.drawn
        obtain rfl : os' = s.os := mv.os
        change wpAny _ _ _ _ _ _
        refine wpAny_pure ?_
        change wpAny _ _ (ret Value.none) _ _ _
        refine wpAny_pure ⟨rfl, h', tk', rfl, hS2, fun b o e => ?_⟩
        have b1 : b < s.heap.objs.size := Heap.lt_size e
        refine mv.heap b o ?_ (Heap.get?_push_of_some _ (Heap.get?_push_of_some _ e))
        simp only [List.mem_cons, List.not_mem_nil, or_false, not_or]
        rw [szp]
        exact ⟨Nat.ne_of_lt b1, Nat.ne_of_lt (Nat.lt_succ_of_lt b1)⟩
    · intro r2 z2 hr2
      match r2, hr2 with
      | .error e, hr2 => exact hr2
      | .ok .next, hr2 => exact hr2.elim
      | .ok .brk, hr2 => exact hr2.elim
      | .ok .cont, hr2 => exact hr2.elim
      | .ok (.ret r), hr2 =>
        obtain ⟨rfl, h', tk, rfl, hS2, keep⟩ := hr2
        repeat (any_goals (first | assumption | wp_step))
        exact fin _ _ hS2 keep

set_option maxHeartbeats 3200000 in
theorem call_setW_tuple {l : Addr} {items : Array Value} (ks : List KT) {Q : Value → Shared → Prop} (cold : A.handled = none) (row : s.heap.IsTuple l items) (val : ∀ (i : Nat) (v : Value), items[i]? = some v → ∃ k, ks[i]? = some k ∧ knd.is k v = true ∧ v.scannable = true) (szs : items.size = ks.length)
    (few : ks.length + 1 < scanBound) (fin : ∀ (h' : Heap) (tk : Nat), SetW knd h' s.heap.objs.size (ks.foldl addK []) → (∀ b o, s.heap.get? b = some o → h'.get? b = some o) → Q (.ref s.heap.objs.size) { s with heap := h', toks := tk }) :
    wpAny (model P w) A (call (.type "set") [.ref l]) Q E s := by
  obtain ⟨so, hso⟩ : ∃ so : Obj, so = { cls := .type "set", dict := none, data := .set #[] 0 (.fresh 0 0 (!w.params.followText "set-order")) } := ⟨_, rfl⟩
  obtain ⟨c, tl, hmro⟩ := F.called_set.mro
  have h_made := F.called_set.made
  have h_sub := F.called_set.sub
  refine wpAny_call (codeAny_of_tree ?_)
  change wpAny _ _ (callAny (.type "set") _) _ _ _
  refine wpAny_pure ⟨Code.quiet_builtin _ (by decide +kernel), codeAny_builtin F.entry_type_call ?_⟩
  rw [Around.under_plain (weight_type_call_type "set" [.ref l] []) rfl]
  have h_1 := F.called_set.notType
  have h_2 := F.called_set.canCreate
  have h_3 := F.typeCall_set_1 (.ref l)
  repeat (any_goals (first | assumption | wp_step))
  refine codeAny_mono (code_set_led1 (.ref l) (E := E) (Q₁ := fun obj z => obj = .ref s.heap.objs.size ∧ z = { s with heap := s.heap.push so }) ⟨rfl, by rw [hso]⟩) ?_
  intro r z hr
  match r, hr with
  | .error e, hr => exact hr
  | .ok .next, hr => exact hr.elim
  | .ok .brk, hr => exact hr.elim
  | .ok .cont, hr => exact hr.elim
  | .ok (.ret obj), hr =>
    obtain ⟨rfl, rfl⟩ := hr
    have hS : (s.heap.push so).get? s.heap.objs.size = some so := Heap.get?_push_size _ (by rw [hso]; rfl)
    have hT : Shared.TypeIs { s with heap := s.heap.push so } (.ref s.heap.objs.size) "set" := ⟨so, hS, by rw [hso]⟩
    have h_4 := F.called_set.init.lookup
    have h_5 := F.called_set.init.bind (.ref s.heap.objs.size)
    repeat (any_goals (first | assumption | wp_step))
    refine codeAny_mono (codeAny_call_builtin (R := wants (fun r z => r = .none ∧ ∃ h' tk, z = { s with heap := h', toks := tk } ∧ SetW knd h' s.heap.objs.size (ks.foldl addK []) ∧ ∀ b o, s.heap.get? b = some o → h'.get? b = some o) E) F.called_set.init.plain F.entry_set_init (check_set_init_1 hT ?_)) ?_
    · obtain ⟨⟨_, od, _, osl⟩, hol, hcl, nl, hdl⟩ := row
      simp only at hcl hdl
      subst hcl hdl
      have hol2 : (s.heap.push so).get? l = some { cls := .type "tuple", dict := od, data := .seq items nl, slots := osl } := Heap.get?_push_of_some _ hol
      have h_6 := F.sub_tuple_set
      have h_7 := F.sub_tuple_frozenset
      have h_8 : (Value.type "tuple" == Value.type "dict") = false := by decide
      have row2 : (s.heap.push so).IsTuple l items := ⟨_, hol2, rfl, nl, rfl⟩
      have lS : l < s.heap.objs.size := Heap.lt_size hol
      have szp : (s.heap.push so).objs.size = s.heap.objs.size + 1 := Heap.size_push ..
      have lI : l ≠ (s.heap.push so).objs.size := by rw [szp]; exact Nat.ne_of_lt (Nat.lt_succ_of_lt lS)
      have away : s.heap.objs.size ∉ [(s.heap.push so).objs.size, l] := by
        rw [szp]
        simp only [List.mem_cons, List.not_mem_nil, or_false, not_or]
        exact ⟨Nat.ne_of_lt (Nat.lt_succ_self _), Nat.ne_of_gt lS⟩
      subst hso
      unfold Builtin.«set.__init__» noKeywords Builtin.Frozenset.updateFrom
      generalize hPI : pyIter = PI
      wp_walk
      subst hPI
      refine wpAny_pyIter_tuple row2 ?_
      refine wpAny_bind (wpAny_runValue ?_)
      have cold3 : A.in1.in1.in1.handled = none := by simp [cold]
      refine setW_loop ((Walks.tuple cold3 _ l lI items).toS) s.heap.objs.size away ks szs few val (items.size - 0) 0 _ (by omega) (Nat.zero_le _) ⟨⟨_, Heap.get?_push_size _ rfl, rfl, rfl⟩, (row2.push _)⟩ ?_ ?_
      · rw [List.take_zero]
        exact setW_fresh (Heap.get?_push_of_some _ hS)
      · intro z mv hS2
        obtain ⟨h', g2, d', tk', os'⟩ := z
        obtain rfl : g2 = s.gens := mv.gens
        obtain rfl : d' = s.drawn := mv.drawn
        obtain rfl : os' = s.os := mv.os
        change wpAny _ _ _ _ _ _
        refine wpAny_pure ?_
        change wpAny _ _ (ret Value.none) _ _ _
        refine wpAny_pure ⟨rfl, h', tk', rfl, hS2, fun b o e => ?_⟩
        have b1 : b < s.heap.objs.size := Heap.lt_size e
        refine mv.heap b o ?_ (Heap.get?_push_of_some _ (Heap.get?_push_of_some _ e))
        simp only [List.mem_cons, List.not_mem_nil, or_false, not_or]
        rw [szp]
        exact ⟨Nat.ne_of_lt b1, Nat.ne_of_lt (Nat.lt_succ_of_lt b1)⟩
    · intro r2 z2 hr2
      match r2, hr2 with
      | .error e, hr2 => exact hr2
      | .ok .next, hr2 => exact hr2.elim
      | .ok .brk, hr2 => exact hr2.elim
      | .ok .cont, hr2 => exact hr2.elim
      | .ok (.ret r), hr2 =>
        obtain ⟨rfl, h', tk, rfl, hS2, keep⟩ := hr2
        repeat (any_goals (first | assumption | wp_step))
        exact fin _ _ hS2 keep
end
end Den
end
section
/-! Den, part Z: sorted(set(xs)), xs texts. -/
namespace Den
open PySem L2 PySem.Spec PyProof.Rows
section
variable {P : Program} {w : World} {A : Around} {E : Value → Shared → Prop} {s : Shared}
def strV : Value → Str
  | .str x _ => x
  | _ => Str.empty
theorem strV_are : ∀ {l : List Value}, (∀ v ∈ l, ∃ x t, v = Value.str x t) → StrsAre l (l.map strV)
  | [], _ => .nil
  | v :: l, h => by
    obtain ⟨x, t, rfl⟩ := h v (by simp)
    exact .cons x t (strV_are fun u hu => h u (List.mem_cons_of_mem _ hu))
theorem isStr_val {k : Str} {v : Value} (h : (PySem.strKind P w).is k v = true) : ∃ t, v = Value.str k t := Value.isStrOf_shape h
/-- sorted(a set of texts) -/
theorem sorted_setW {a : Addr} {L : List Str} {Q : Value → Shared → Prop} (R : SetW (PySem.strKind P w) s.heap a L) (cold : A.handled = none) (few : L.length ≤ 100000)
    (fin : ∀ z p (out : Array Value) (c : Nat) (ys : List Str), (∀ b o, s.heap.get? b = some o → z.heap.get? b = some o) → z.gens = s.gens → z.os = s.os → s.heap.objs.size ≤ p → z.heap.get? p = some (seqObj "list" out c) → StrsAre out.toList ys → ys.Perm L → sortedS ys = true → Q (.ref p) z) :
    wpAny (model P w) A (call (.builtin "sorted") [.ref a]) Q E s := by
  obtain ⟨o, us, ep, t, go, ex, od, el, pm, nd, sb, fit, ris, led⟩ := R
  refine Calls.call_function_entry kind_sorted plain_sorted entry_sorted (args_sorted1 _) ?_
  unfold Builtin.«sorted»
  refine wpAny_bind (m := checkCount "sorted" 1 1 _) (wpAny_pure ?_)
  refine wpAny_bind (collect_set (A := A.in1) cold ⟨o, go, ex.1, od⟩ fit sb ris led fun s1 vs keep grow g1 o1 pv => ?_)
  have txt : ∀ v ∈ vs, ∃ x t, v = Value.str x t := fun v hv => by
    obtain ⟨e, he, q⟩ := List.mem_map.mp (pv.mem_iff.mp hv)
    obtain ⟨⟨k, hk, _⟩, _⟩ := el e he
    obtain ⟨t, ht⟩ := isStr_val hk
    exact ⟨k, t, by rw [← q]; exact ht⟩
  have are := strV_are txt
  have same : ∀ e ∈ us.toList, strV e.2 = keyW (PySem.strKind P w) e := fun e he => by
    obtain ⟨⟨k, hk, _⟩, _⟩ := el e he
    obtain ⟨t, ht⟩ := isStr_val hk
    rw [keyW_is _ hk, ht]
    rfl
  have pk : (vs.map strV).Perm L := by
    have q := pv.map strV
    rw [List.map_map] at q
    have e : us.toList.map (strV ∘ fun e : Int × Value => e.2) = us.toList.map (keyW (PySem.strKind P w)) := List.map_congr_left fun e he => same e he
    rw [e] at q
    exact q.trans pm
  have vl : vs.length = L.length := by rw [← pk.length_eq, List.length_map]
  have line : vs.length ≤ sizeLine := by rw [vl, sizeLine_eq]; omega
  refine wpAny_bind (wpAny_newList ?_ line)
  have hoL : (s1.heap.push (seqObj "list" vs.toArray 0)).get? s1.heap.objs.size = some (seqObj "list" vs.toArray 0) := Heap.get?_push_size _ rfl
  refine wpAny_bind (wpAny_holding (wpAny_call_entry slot_list_sort ⟨_, hoL, rfl⟩ entry_list_sort
    (list_sort_treeKAny strKind_oneLt hoL are.keysOf (fun v₁ v₂ rest e => keyKind_strs (by rw [← e]; exact are)) line fun st hp hs => ⟨_, rfl, ?_⟩) (args_list_sort _)))
  obtain ⟨ys, y1, y2, y3⟩ := sorted_out_str are hp hs
  obtain ⟨c, hc⟩ := sortedHeap_at (vs := vs) (out := (arrOf st).map (·.2)) hoL
  refine wpAny_pure ⟨_, rfl, fin _ s1.heap.objs.size ((arrOf st).map (·.2)) c ys (fun b u e => ?_) g1 o1 grow hc y1 (y2.trans pk) y3⟩
  have q := keep b u e
  have lt := Heap.lt_size q
  show (sortedHeap (s1.heap.push (seqObj "list" vs.toArray 0)) s1.heap.objs.size vs ((arrOf st).map (·.2))).get? b = some u
  rw [sortedHeap_old (Nat.ne_of_lt lt) (by rw [size_push']; exact Nat.lt_succ_of_lt lt)]
  exact Heap.get?_push_of_some _ q
end
/-! ### in the abstract heap -/
def SetWO (P : Program) (w : World) (a : Addr) (L : List Str) : HO := .ext fun h => SetW (PySem.strKind P w) h a L
def rSetW (K : PySem.W.Frag) (P : Program) (w : World) : List V → Hp → VK → Prop := fun vs H Q => ∃ (l : Addr) (xs : List Str), vs = [.ref l] ∧ (SqL K H l (xs.map V.str) ∨ SqT K H l (xs.map V.str)) ∧ xs.length ≤ 1000 ∧
  ∀ p, H p = none → Q (.ref p) (upd H p (SetWO P w p (xs.foldl addK [])))
def rSrtW (P : Program) (w : World) : List V → Hp → VK → Prop := fun vs H Q => ∃ (a : Addr) (L : List Str), vs = [.ref a] ∧ H a = some (SetWO P w a L) ∧ L.length ≤ 1000 ∧
  ∀ (ys : List Str) (p : Addr), ys.Perm L → sortedS ys = true → H p = none → Q (.ref p) (upd H p (.lst (ys.map V.str)))
section
variable {X : Cx}
theorem strs_val {its : List Value} {xs : List Str} (r : Vals (xs.map V.str) its) : its.toArray.size = xs.length ∧ ∀ (i : Nat) (v : Value), its.toArray[i]? = some v → ∃ k, xs[i]? = some k ∧ (PySem.strKind X.prog X.w).is k v = true ∧ v.scannable = true := by
  have hl := r.length
  rw [List.length_map] at hl
  refine ⟨by simp [hl], fun i v hv => ?_⟩
  rw [List.getElem?_toArray] at hv
  have hi : i < xs.length := by
    rw [hl]
    exact (List.getElem?_eq_some_iff.mp hv).1
  obtain ⟨u, hu, rv⟩ := r.get (i := i) (x := .str xs[i]) (by rw [List.getElem?_map, List.getElem?_eq_getElem hi]; rfl)
  rw [hv] at hu
  cases hu
  obtain ⟨t, rfl⟩ := rv
  exact ⟨xs[i], List.getElem?_eq_getElem hi, strKind_is _ _ _ _, rfl⟩
theorem cr_setW (hc : X.calm = true) : CallR X (.type "set") (rSetW X.K X.prog X.w) := by
  intro pins s σ H vs us Q I r h
  obtain ⟨l, xs, rfl, h, few, q⟩ := h
  rw [Vals.ref1 r]
  have room : xs.length + 1 < scanBound := by unfold scanBound; omega
  have fin : ∀ (h' : Heap) (tk : Nat), SetW (PySem.strKind X.prog X.w) h' s.heap.objs.size (xs.foldl addK []) → (∀ b o, s.heap.get? b = some o → h'.get? b = some o) → EP X pins σ Q (.ref s.heap.objs.size) { s with heap := h', toks := tk } := fun h' tk R keep => by
    have new : ObjOk X.prog X.w (upd H s.heap.objs.size (SetWO X.prog X.w s.heap.objs.size (xs.foldl addK []))) h' s.heap.objs.size (SetWO X.prog X.w s.heap.objs.size (xs.foldl addK [])) := by
      have ⟨o, _, _, _, go, _⟩ := R
      exact ⟨R, ⟨o, go⟩, fun h1 h2 p k => SetW.at p k⟩
    exact ⟨.ref _, _, I.laid keep (Nat.le_refl _) new, rfl, q _ (I.hok.fresh (Nat.le_refl _))⟩
  rcases h with h | h
  · obtain ⟨its, rv, pl, _⟩ := I.list h
    obtain ⟨sz, val⟩ := strs_val (X := X) rv
    exact call_setW_list xs (I.ok.hd hc) pl.isList val sz room fin
  · obtain ⟨its, rv, pl, _⟩ := I.tuple h
    obtain ⟨sz, val⟩ := strs_val (X := X) rv
    exact call_setW_tuple xs (I.ok.hd hc) pl val sz room fin
theorem cr_srtW (hc : X.calm = true) : CallR X (.builtin "sorted") (rSrtW X.prog X.w) := by
  intro pins s σ H vs us Q I r h
  obtain ⟨a, L, rfl, ha, few, q⟩ := h
  have R : SetW (PySem.strKind X.prog X.w) s.heap a L := (I.hok a _ ha).1
  rw [Vals.ref1 r]
  refine sorted_setW R (I.ok.hd hc) (by omega) fun z p out c ys keep g o hp hg are pm srt => ?_
  have len : (ys.map V.str).length ≤ sizeLine := by rw [List.length_map, pm.length_eq, sizeLine_eq]; omega
  have fresh : H p = none := I.hok.fresh hp
  have J : Inv X pins σ (upd H p (.lst (ys.map V.str))) { s with heap := z.heap, gens := z.gens, drawn := z.drawn, toks := z.toks } :=
    I.call (ch := []) (Un.laid keep hp fresh) (I.hok.laid keep hp ⟨len, out.toList, c, vals_of_strs are, hg⟩) (by rw [g]; exact I.bare) (fun _ y => nomatch y)
  obtain ⟨zh, zg, zd, zt, zo⟩ := z
  cases o
  exact ⟨.ref p, _, J, rfl, q ys p pm srt fresh⟩
end
end Den
end
section
/-! Den, part AA: sorted(set(xs)) as one operation. -/
namespace Den
open PySem L2 PySem.Spec PyProof.Rows
def seqO (o : O) : Option (List D) := match lstD o with
  | some ds => some ds
  | none => tupD o
def uniq (xs : List Str) : List Str := xs.foldl addK []
def gSrtSet (o : O) : Option O := match seqO o with
  | some ds => match strsD ds with
    | some ss => if ss.length ≤ 1000 then some (.lst (((sortStr (uniq ss)).map D.str).map O.sh)) else none
    | none => none
  | none => none
def rSrtSet (K : PySem.W.Frag) (P : Program) (w : World) : V → Hp → VK → Prop := fun x H Q => rSetW K P w [x] H fun y H1 => rSrtW P w [y] H1 Q
section
variable {Γ : Gb} {c : Ent} {R : List (V × O)} {H : Hp}
/-- a cell that nobody names any more -/
theorem RSL.free {L : List Addr} (h : RSL Γ c R L H) : RS Γ c R H := by
  obtain ⟨S, F, st, q, nd, dj, sb, lc⟩ := h
  refine ⟨S, F, st.mem fun a m => by rw [List.append_nil] at m; exact List.mem_append_left _ m, q, ?_, fun a m => ?_, sb, fun a m => by cases m⟩
  · rw [List.append_nil]
    exact (List.nodup_append.mp nd).1
  · rw [List.append_nil] at m
    exact dj a (List.mem_append_left _ m)
theorem RS.junk (h : RS Γ c R H) {p : Addr} (hp : H p = none) {u : HO} (hu : NoT u) : RS Γ c R (upd H p u) := (h.new hp hu).free
theorem RS.seqS {v : V} {o : O} {ds : List D} {ss : List Str} (h : RS Γ c R H) (m : (v, o) ∈ R) (e : seqO o = some ds) (e2 : strsD ds = some ss) : ∃ a, v = .ref a ∧ (SqL Γ.K H a (ss.map V.str) ∨ SqT Γ.K H a (ss.map V.str)) := by
  unfold seqO at e
  split at e
  · rename_i es e1
    cases e
    obtain ⟨a, rfl, ha⟩ := h.strs m e1 e2
    exact ⟨a, rfl, .inl (.of ha)⟩
  · obtain ⟨a, xs, rfl, ha, had⟩ := h.tup m e
    obtain ⟨S, sb, r, _⟩ := had.ex
    rw [strsD_some e2] at r
    rw [r.strs] at ha
    exact ⟨a, rfl, .inr ha⟩
theorem uniq_len (xs : List Str) : (uniq xs).length ≤ xs.length := by
  have := addAll_len xs []
  rw [List.length_nil, Nat.zero_add] at this
  exact this
theorem ok_srtSet : Op1 Γ (rSrtSet Γ.K Γ.prog Γ.w) gSrtSet := by
  intro c R H x ox w Q h m e k
  unfold gSrtSet at e
  split at e
  · rename_i ds e1
    split at e
    · rename_i ss e2
      split at e
      · rename_i few
        cases e
        obtain ⟨a, rfl, ha⟩ := h.seqS m e1 e2
        refine ⟨a, ss, rfl, ha, few, fun p hp => ?_⟩
        have h1 := h.junk hp (u := SetWO Γ.prog Γ.w p (uniq ss)) (fun ps q => by cases q)
        refine ⟨p, uniq ss, rfl, upd_same, Nat.le_trans (uniq_len ss) few, fun ys p2 pm srt hp2 => ?_⟩
        rw [sortStr_eq pm srt]
        obtain ⟨S, sb, rd, q⟩ := h1.readS
        have hc : Had Γ c R _ ((sortStr (uniq ss)).map V.str) ((sortStr (uniq ss)).map D.str) := ⟨S, sb, repL_strs, q⟩
        exact k _ _ (hc.newL hp2)
      · cases e
    · cases e
  · cases e
end
section
variable {X : Cx} {Γ : Gb} {P : Nat → Bool} {W : WX} {a : Expr} {ta : TE} {oa : Od} {pos p2 pn pm : Pos}
theorem ae_srtSet (hK : X.K = Γ.K) (hP : X.prog = Γ.prog) (hw : X.w = Γ.w) (hc : X.calm = true) (hs : X.mg "sorted" = none) (ht : X.mg "set" = none) (ha : AO X Γ P W a ta oa) (hbs : bootBuiltins "sorted" = some (.builtin "sorted") := by decide +kernel) (hbt : bootBuiltins "set" = some (.type "set") := by decide +kernel)
    (gs : Gl X "sorted" := by rfl) (gt : Gl X "set" := by rfl) (e1 : starEach (a :: []) X.env = (false, eval a X.env) :: starEach [] X.env := by rfl) (f1 : (backTo p2 (starEach [] X.env)).any (·.1) = false := by rfl)
    (e2 : starEach (.Call (.Name "set" pm) [a] [] p2 :: []) X.env = (false, eval (.Call (.Name "set" pm) [a] [] p2) X.env) :: starEach [] X.env := by rfl) (f2 : (backTo pos (starEach [] X.env)).any (·.1) = false := by rfl) :
    AE X Γ P W (.Call (.Name "sorted" pn) [.Call (.Name "set" pm) [a] [] p2] [] pos) (tCB (rSrtW X.prog X.w) (tCons (tCB (rSetW X.K X.prog X.w) (tCons ta tNil)) tNil)) (aOp [oa] (l1 gSrtSet)) := by
  refine ⟨pe_callB (cr_srtW hc) gs hs hbs (pa_cons (pe_callTy (cr_setW hc) gt ht hbt (pa_cons ha.pe pa_nil e1) (by decide) (by decide) e1 f1) pa_nil e2) (by decide) (by decide) e2 f2, ?_⟩
  rw [hK, hP, hw]
  exact show Sx Γ P W (fun σ H Q => ta σ H fun x H1 => rSrtSet Γ.K Γ.prog Γ.w x H1 Q) _ from sx_op1 (ha.sa sa_nil) ok_srtSet
end
end Den
end
section
/-! Den, part AB: a def with defaults. -/
namespace Den
open PySem L2 PySem.Spec PyProof.Rows
section
variable {Γ : Gb} {mg : Str → Option Value} {base : Heap}
theorem fn_defD {x : Str} {st : Stmt} {f : Addr} {fd : FuncData} {N ps : List Str} {k : Nat} {pb : List Bool} {m : Nat} {body : aS} {dvs : List V} (F : FunD Γ.K x x (defArgs st) (defBody st) (defScope st) dvs [] f fd) (S : FnScope N ps (defScope st)) (hl : ps.length = pb.length) (hm : N.length = m)
    (hb : ∀ (cdv : Value) (A : Around) (outer : List Env) (s : Shared) (H : Hp) (E : XK), Room k (A.deeper (envOfC x (defScope st) s.heap.objs.size f cdv)) →
      Takes (cxOf (L2.CX Γ.prog Γ.w) Γ.prog Γ.w Γ.K mg base N x (defScope st) f cdv A outer s H E) (fun cls d _ H => E cls d H) →
      PassesOwn (model Γ.prog Γ.w) (cxOf (L2.CX Γ.prog Γ.w) Γ.prog Γ.w Γ.K mg base N x (defScope st) f cdv A outer s H E).A (cxOf (L2.CX Γ.prog Γ.w) Γ.prog Γ.w Γ.K mg base N x (defScope st) f cdv A outer s H E).env (cxOf (L2.CX Γ.prog Γ.w) Γ.prog Γ.w Γ.K mg base N x (defScope st) f cdv A outer s H E).xe →
      ∃ t, AL (cxOf (L2.CX Γ.prog Γ.w) Γ.prog Γ.w Γ.K mg base N x (defScope st) f cdv A outer s H E) Γ (kp pb) (fun cls d _ H => E cls d H) (defBody st) t body) :
    FnOk Γ.prog Γ.w Γ.K mg base (L2.CX Γ.prog Γ.w) (k + 1) f fd ps (spD Γ pb.length (aDef pb m body)) := by
  refine F.ok S (fun vs H Q E h => by rw [h.1, hl]) fun cdv A outer s H vs Q E hr h => ?_
  obtain ⟨t, at_⟩ := hb cdv A outer s H E hr (takes_of rfl rfl rfl rfl) (passes_of rfl)
  refine ⟨t, at_.pss, ?_⟩
  obtain ⟨hv, e, os, ho, r, k1⟩ := h
  have ent := enter_ok (R := []) hv ho (by rw [List.append_nil]; exact r)
  rw [List.append_nil] at ent
  obtain ⟨sl, sr⟩ := start_slots (vs := vs) (os := pre pb os) (m := m - pb.length) (by rw [pre_len ho, hv])
  have st0 : L2.start N vs = vs.map some ++ List.replicate (m - pb.length) none := by
    unfold L2.start
    rw [hm, hv]
  have s0 : SR Γ (kp pb) ⟨e, L2.start N vs⟩ (L2.start N vs) ((pre pb os).map some ++ List.replicate (m - pb.length) none) (keepT pb vs os) H := by
    rw [st0]
    exact ⟨sl, fun j _ => rfl, by rw [sr]; exact ent⟩
  have back : ∀ (X : List (V × O)) (σ : L2.St) (ρ : Store) (H' : Hp) (os' : List O), SR Γ (kp pb) ⟨e, L2.start N vs⟩ σ ρ (X ++ keepT pb vs os) H' → outs pb os ρ = some os' → RS Γ e (X ++ vs.zip os') H' := by
    intro X σ ρ H' os' q eo
    obtain ⟨Y, p⟩ := leave_ok q.ok hv (fun j hj => by
      have hj' : kp pb j = true := by
        show pb.getD j false = true
        rw [List.getD_eq_getElem?_getD, hj]
        rfl
      rw [q.fix j hj']
      show (L2.start N vs)[j]? = _
      rw [st0]
      have hlt : j < vs.length := by
        rw [hv]
        exact (List.getElem?_eq_some_iff.mp hj).1
      rw [List.getElem?_append_left (by rw [List.length_map]; exact hlt), List.getElem?_map]) eo
    have q1 : RS Γ e (Y ++ (X ++ vs.zip os')) H' := q.rs.perm (by
      refine (List.perm_append_comm_assoc _ _ _).trans ?_
      refine (List.Perm.append_left _ p).trans ?_
      exact List.perm_append_comm_assoc _ _ _)
    exact q1.dropL
  refine at_.sx ⟨e, L2.start N vs⟩ (L2.start N vs) _ (keepT pb vs os) H _ s0 ?_
  unfold aDef at k1
  rw [if_pos ho] at k1
  cases eb : body ((pre pb os).map some ++ List.replicate (m - pb.length) none) with
  | nx ρ =>
    rw [eb] at k1
    simp only at k1
    cases eo : outs pb os ρ with
    | none => rw [eo] at k1; exact k1.elim
    | some os' =>
      rw [eo] at k1
      exact fun σ H' q => k1.2 _ _ ((back [] σ ρ H' os' q eo).pure fun _ => .non)
  | brk ρ => rw [eb] at k1; exact k1.elim
  | ct ρ => rw [eb] at k1; exact k1.elim
  | ret o ρ =>
    rw [eb] at k1
    simp only at k1
    cases eo : outs pb os ρ with
    | none => rw [eo] at k1; exact k1.elim
    | some os' =>
      rw [eo] at k1
      exact fun σ v H' q => k1.2 _ _ (back [(v, o)] σ ρ H' os' q eo)
  | exc x ρ =>
    rw [eb] at k1
    simp only at k1
    cases eo : outs pb os ρ with
    | none => rw [eo] at k1; exact k1.elim
    | some os' =>
      rw [eo] at k1
      refine fun σ cls d H' q => k1.2 cls d H' ?_
      obtain ⟨ec, q⟩ := q
      refine ⟨ec, ?_⟩
      obtain ⟨xc, xfs⟩ := x
      cases xfs with
      | none => exact ⟨q.1, back [] σ ρ H' os' q.2 eo⟩
      | some fs =>
        obtain ⟨dd, e1, q⟩ := q
        exact ⟨dd, e1, back [(.ref dd, .sh (.xd fs))] σ ρ H' os' q eo⟩
  | stuck => rw [eb] at k1; exact k1.elim
/-- what the written part tells of a def with defaults -/
theorem funD_mk {x : Str} {st : Stmt} {f T : Addr} {oc : Value} {od an dT : Option Addr} {osl sT : Array (Option Value)} {kV doc pm cdv ct : Value} {dvs : List V} {its : List Value} {n : Nat} {cT : Value}
    (l : Γ.K.lookup f = some ⟨oc, od, .func (PySem.W.fnOf x x (defArgs st) (defBody st) (defScope st) (.ref T) kV doc pm an cdv ct), osl⟩) (lT : Γ.K.lookup T = some ⟨cT, dT, .seq its.toArray n, sT⟩) (hd : dvs ≠ []) (hv : Vals dvs its)
    (c : PySem.W.codeIn Γ.K cdv x = true) (k : PySem.W.keepIn Γ.K (.ref f) = true) : FunD Γ.K x x (defArgs st) (defBody st) (defScope st) dvs [] f (PySem.W.fnOf x x (defArgs st) (defBody st) (defScope st) (.ref T) kV doc pm an cdv ct) :=
  ⟨⟨oc, od, .ref T, kV, doc, pm, an, cdv, ct, osl, rfl, l, c, .inr ⟨hd, T, _, its, n, rfl, lT, rfl, hv⟩, .inl rfl⟩, k⟩
theorem cl_mkD {k n : Nat} {x : Str} {dds : List D} {den : aF} {f : Addr} {fd : FuncData} {ps : List Str} (F : FnOk Γ.prog Γ.w Γ.K mg base (L2.CX Γ.prog Γ.w) k f fd ps (spD Γ n den)) (hm : mg x = some (.ref f)) (hk : PySem.W.keepIn Γ.K (.ref f) = true)
    (hb : ∃ ds, Vals (dds.map toV) ds ∧ Binds Γ.K fd ps ds) (hs : dds.all isScal = true) : Cl Γ mg base k x n dds den := by
  obtain ⟨ds, v, b⟩ := hb
  exact cl_mk F hm hk b v fun S => repL_scal hs
end
end Den
end
section
/-! Den, part AC: xs.extend(t), t a list or a tuple. -/
namespace Den
open PySem L2 PySem.Spec PyProof.Rows
set_option maxRecDepth 8000 in
theorem ext_tup (l : Addr) (us : Array Value) (n : Nat) (b : Addr) (ws : Array Value) (m : Nat) (dd : Option Addr) (sl : Array (Option Value)) (short : ¬(!us.isEmpty && Builtin.List.listTooLong (us.size + ws.size)) = true) (fit : us.size ≤ sizeLine) (both : us.size + ws.size ≤ sizeLine + 1) :
    Meets (Builtin.«list.extend» ⟨[.ref l, .ref b], []⟩) (fun _ R s => s.heap.get? l = some { cls := .type "list", dict := none, data := .seq us n, slots := #[] } ∧ s.heap.get? b = some { cls := .type "tuple", dict := dd, data := .seq ws m, slots := sl } ∧
      R (.ok (.ret Value.none)) { s with heap := s.heap.update l (Obj.mapSeq fun x => x ++ ws), toks := s.toks }) := by
  refine .of_wp fun prog w A R s h => ?_
  obtain ⟨hp, g, d, tk, os⟩ := s
  obtain ⟨g1, g2, fin⟩ := h
  have q1 := sub_tuple_tuple
  have q2 := sub_list_list
  have q3 := sub_tuple_list
  have q4 := sub_list_tuple
  have fit2 : (us ++ ws).size ≤ sizeLine + 1 := by rw [Array.size_append]; exact both
  wp_walk using (wpAny_updateSeq g1 rfl (hz := fit) (_hz' := fit2)), wpAny_loadPart' g1, wpAny_loadPart' g2
  exact ⟨_, rfl, fin⟩
def rExtT (K : PySem.W.Frag) : V → List V → Hp → VK → Prop := fun x vs H Q => ∃ l b xs zs, x = .ref l ∧ vs = [.ref b] ∧ H l = some (.lst xs) ∧ SqT K H b zs ∧ xs.length + zs.length ≤ 16000000 ∧ Q .non (upd H l (.lst (xs ++ zs)))
theorem mt_extT {X : Cx} : MtR X "list.extend" (rExtT X.K) := by
  intro pins s σ H x vs v us Q I rx rv h
  obtain ⟨l, b, xs, zs, rfl, rfl, hH, hB, hz, q⟩ := h
  cases rx
  obtain ⟨u, rfl, ru⟩ := rv.one
  cases ru
  obtain ⟨z, its, n, r, hl, e⟩ := I.lstM hH
  obtain ⟨its2, r2, ⟨⟨cls, dd, data, sl⟩, ho, hc, n2, hd⟩, _⟩ := I.tuple hB
  simp only at hc hd
  subst hc hd
  have l2 : zs.length = its2.length := r2.length
  have sz : its.toArray.size + its2.toArray.size ≤ sizeLine := by rw [List.size_toArray, List.size_toArray, sizeLine_eq]; omega
  have short : ¬ (!its.toArray.isEmpty && Builtin.List.listTooLong (its.toArray.size + its2.toArray.size)) = true := by
    rw [notLongL sz, Bool.and_false]
    simp
  refine call_meets F.slot_list_extend ⟨_, e, rfl⟩ F.entry_list_extend (F.args_list_extend_2 _ _) (ext_tup l its.toArray n b its2.toArray n2 dd sl short (by rw [sizeLine_eq] at *; rw [List.size_toArray]; omega) (by rw [sizeLine_eq] at *; omega)) ⟨e, ho, ?_⟩
  · refine ⟨.non, _, I.lset (its' := its ++ its2) hH e (by simp) (r.append r2) ?_, rfl, q⟩
    rw [List.length_append, sizeLine_eq]
    omega
def rExtA (K : PySem.W.Frag) : V → List V → Hp → VK → Prop := fun x vs H Q => rExtend x vs H Q ∨ rExtT K x vs H Q
theorem mt_extA {X : Cx} : MtR X "list.extend" (rExtA X.K) := by
  intro pins s σ H x vs v us Q I rx rv h
  rcases h with h | h
  · exact mt_extend pins s σ H x vs v us Q I rx rv h
  · exact mt_extT pins s σ H x vs v us Q I rx rv h
def fExtA : O → List O → Option (O × O)
  | .lst os, [.sh (.tup ds)] => if os.length + ds.length ≤ 16000000 then some (.lst (os ++ ds.map O.sh), .sh .non) else none
  | x, as => fExtend x as
theorem m_extA {Γ : Gb} : MOk Γ (rExtA Γ.K) fExtA := by
  intro c R H x ox ps o' w Q h mem e k
  unfold fExtA at e
  split at e
  · rename_i os ds eps
    split at e
    · cases e
      rename_i hl
      match ps, eps with
      | [(y, u)], eps =>
        obtain rfl : u = .sh (.tup ds) := by simpa using eps
        obtain ⟨b, zs, rfl, hb, had⟩ := h.tup (List.mem_cons_of_mem _ (mem (y, .sh (.tup ds)) (by simp))) rfl
        obtain ⟨S, sb, r, _, ad⟩ := had.ex
        have h2 : RS Γ c ((x, .lst os) :: (zs.zip (ds.map O.sh) ++ R)) H := (ad zs ds r).perm List.perm_middle
        obtain ⟨a, rs, rfl, rfl, ha, q⟩ := h2.openL'
        refine .inr ⟨a, b, _, zs, rfl, rfl, ha, hb, by rw [List.length_map] at hl ⊢; rw [had.len]; exact hl, k _ _ ?_⟩
        have z := q (rs ++ zs.zip (ds.map O.sh)) R (by rw [List.append_assoc])
        rw [List.map_append, List.map_append, zip_fst had.len, zip_snd had.len] at z
        exact z.pure fun _ => .non
    · cases e
  · exact .inl (m_extend c R H x _ ps o' w Q h mem e k)
end Den
end
section
/-! Den, part AD: objects of own classes: fields, made, their methods, == and len by their own. -/
namespace Den
open PySem L2 PySem.Spec PyProof.Rows
/-! ### o.f -/
def gFld (c : Nat) (f : Str) : O → Option O
  | .sh (.obj n fs) => if n = c then (fs.lookup f).map O.sh else none
  | .obj n fs => if n = c then match fs.lookup f with
      | some (.sh d) => some (.sh d)
      | _ => none
    else none
  | _ => none
def rFld (K : PySem.W.Frag) (f : Str) : V → Hp → VK → Prop := fun x H Q => ∃ a C dx fs v, x = .ref a ∧ H a = some (.ins C dx fs) ∧ Cls K C ∧ NoAttr K C f ∧ fs.lookup f = some v ∧ Q v H
section
variable {Γ : Gb} {c : Nat} {f : Str}
theorem lookup_rep {S : Hp} : ∀ {fs : List (Str × D)} {vs : List (Str × V)}, fs.map Prod.fst = vs.map Prod.fst → RepL Γ S (vs.map Prod.snd) (fs.map Prod.snd) → ∀ {d : D}, fs.lookup f = some d → ∃ v, vs.lookup f = some v ∧ Rep Γ S v d
  | [], [], _, _, d, e => by cases e
  | [], _ :: _, e, _, _, _ => by cases e
  | _ :: _, [], e, _, _, _ => by cases e
  | (k, x) :: fs, (j, v) :: vs, e, r, d, h => by
    simp only [List.map_cons, List.cons.injEq] at e
    obtain ⟨rfl, e⟩ := e
    cases r with
    | cons r1 r2 =>
      rw [List.lookup_cons] at h ⊢
      cases hk : (f == k) with
      | true =>
        rw [hk] at h
        cases h
        exact ⟨v, rfl, r1⟩
      | false =>
        rw [hk] at h
        exact lookup_rep e r2 h
theorem lookup_own {S H : Hp} : ∀ {fs : List (Str × O)} {vs : List (Str × V)} {rs : List (V × O)} {F : List Addr}, ORL Γ S H rs F → fs.map Prod.fst = vs.map Prod.fst → vs.map Prod.snd = rs.map Prod.fst → fs.map Prod.snd = rs.map Prod.snd → ∀ {d : D}, fs.lookup f = some (.sh d) → ∃ v, vs.lookup f = some v ∧ Rep Γ S v d
  | [], _, _, _, _, _, _, _, d, e => by cases e
  | _ :: _, [], _, _, _, e, _, _, _, _ => by cases e
  | _ :: _, _ :: _, [], _, _, _, e, _, _, _ => by cases e
  | (k, x) :: fs, (j, v) :: vs, (w, o) :: rs, F, hl, e1, e2, e3, d, h => by
    simp only [List.map_cons, List.cons.injEq] at e1 e2 e3
    obtain ⟨rfl, e1⟩ := e1
    obtain ⟨rfl, e2⟩ := e2
    obtain ⟨rfl, e3⟩ := e3
    cases hl with
    | cons r1 r2 =>
      rw [List.lookup_cons] at h ⊢
      cases hk : (f == k) with
      | true =>
        rw [hk] at h
        cases h
        cases r1 with
        | sh r => exact ⟨v, rfl, r⟩
      | false =>
        rw [hk] at h
        exact lookup_own r2 e1 e2 e3 h
theorem ok_fld (cc : Cls Γ.K (Γ.cls c)) (na : NoAttr Γ.K (Γ.cls c) f) : Op1 Γ (rFld Γ.K f) (gFld c f) := by
  intro ce R H x ox w Q h m e k
  obtain ⟨S, sb, rd, ad, _⟩ := h.readS
  obtain ⟨F, r⟩ := rd _ m
  unfold gFld at e
  split at e
  · split at e
    · rename_i hn
      subst hn
      simp only [Option.map_eq_some_iff] at e
      obtain ⟨d, hd, rfl⟩ := e
      cases r with
      | sh r => cases r with
        | obj ha e1 hl =>
          obtain ⟨v, hv, rv⟩ := lookup_rep e1 hl hd
          exact ⟨_, _, _, _, v, rfl, (sb _ _ ha).1, cc, na, hv, k _ _ (ad _ _ rv)⟩
    · cases e
  · split at e
    · rename_i hn
      subst hn
      split at e
      · cases e
        rename_i d hd
        cases r with
        | obj ha e1 e2 e3 hl =>
          obtain ⟨v, hv, rv⟩ := lookup_own hl e1 e2 e3 hd
          exact ⟨_, _, _, _, v, rfl, ha, cc, na, hv, k _ _ (ad _ _ rv)⟩
      · cases e
    · cases e
  · cases e
end
section
variable {X : Cx} {Γ : Gb} {P : Nat → Bool} {W : WX} {e : Expr} {te : TE} {od : Od} {c : Nat} {f : Str} {pos : Pos}
theorem ae_fld (hK : X.K = Γ.K) (cc : Cls Γ.K (Γ.cls c)) (na : NoAttr Γ.K (Γ.cls c) f) (ha : AO X Γ P W e te od) (hb : attributeBase e f X.env (eval e X.env) = eval e X.env := by rfl) : AE X Γ P W (.Attribute e f pos) (tFld Γ.K te f) (aOp [od] (l1 (gFld c f))) :=
  ⟨hK ▸ pe_fld ha.pe hb, show Sx Γ P W (fun σ H Q => te σ H fun x H1 => rFld Γ.K f x H1 Q) _ from sx_op1 (ha.sa sa_nil) (ok_fld cc na)⟩
end
/-! ### o.f = e, the first time -/
def sFldP (i c : Nat) (f : Str) (g : aE) : aS := fun ρ => (g ρ).out fun o ρ1 => match ρ1[i]? with
  | some (some (.obj n fs)) => if n = c ∧ fs.length < 1000 ∧ fs.lookup f = none then .nx (ρ1.set i (some (.obj n (fs ++ [(f, .sh (fz o))])))) else .stuck
  | _ => .stuck
theorem putF_new {f : Str} {v : V} : ∀ {fs : List (Str × V)}, fs.lookup f = none → putF f v fs = fs ++ [(f, v)]
  | [], _ => rfl
  | (g, x) :: r, h => by
    rw [List.lookup_cons] at h
    cases hk : (f == g) with
    | true => rw [hk] at h; cases h
    | false =>
      rw [hk] at h
      have : g ≠ f := fun z => by
        rw [z] at hk
        simp at hk
      rw [putF, if_neg this, putF_new h, List.cons_append]
theorem lookup_none {α β : Type} {f : Str} : ∀ {fs : List (Str × α)} {vs : List (Str × β)}, fs.map Prod.fst = vs.map Prod.fst → fs.lookup f = none → vs.lookup f = none
  | [], [], _, _ => rfl
  | [], _ :: _, e, _ => by cases e
  | _ :: _, [], e, _ => by cases e
  | (k, x) :: fs, (j, v) :: vs, e, h => by
    simp only [List.map_cons, List.cons.injEq] at e
    obtain ⟨rfl, e⟩ := e
    rw [List.lookup_cons] at h ⊢
    cases hk : (f == k) with
    | true => rw [hk] at h; cases h
    | false =>
      rw [hk] at h
      exact lookup_none e h
section
variable {Γ : Gb} {P : Nat → Bool} {W : WX} {i c : Nat} {f : Str} {te : TE} {g : aE}
theorem ss_fld (cc : Cls Γ.K (Γ.cls c)) (na : NoAttr Γ.K (Γ.cls c) f) (h1 : Sx Γ P W te g) : Ss Γ P W (sFld Γ.K (tVar i) te f) (sFldP i c f g) := fun fr σ ρ T H D s k => by
  refine h1 fr σ ρ T H _ s ((GoodS.bind k).imp fun o ρ1 k1 v H1 s1 => ?_)
  clear k
  split at k1
  · rename_i n fs e0
    split at k1
    · rename_i hc
      obtain ⟨hn, hl, hf⟩ := hc
      subst hn
      obtain ⟨x, hx, s2⟩ := s1.fz.take e0
      have r0 : RS Γ fr.c ((x, .obj n fs) :: ((v, .sh (Den.fz o)) :: (slotsR σ (ρ1.set i none) ++ T))) H1 := s2.rs.perm (List.perm_middle.trans (List.Perm.cons _ List.perm_middle))
      obtain ⟨a, dx, rs, vs, rfl, ha, e1, e2, e3, op⟩ := r0.openO
      refine ⟨.ref a, hx, a, _, dx, vs, rfl, ha, cc, na, ?_, ?_⟩
      · have := congrArg List.length e1
        rw [List.length_map, List.length_map] at this
        omega
      · rw [putF_new (lookup_none e1 hf)]
        have op2 : RSL Γ fr.c ((rs ++ [(v, .sh (Den.fz o))]) ++ (slotsR σ (ρ1.set i none) ++ T)) [a] H1 := op.perm (by rw [List.append_assoc]; exact .refl _)
        have q := (op2.put (u := .ins (Γ.cls n) dx (vs ++ [(f, v)])) noT_ins).closeO (fs := fs ++ [(f, .sh (Den.fz o))]) upd_same (by rw [List.map_append, List.map_append, e1]; rfl) (by rw [List.map_append, List.map_append, e2]; rfl) (by rw [List.map_append, List.map_append, e3]; rfl)
        have s3 : SR Γ P fr σ (ρ1.set i none) ((.ref a, .obj n (fs ++ [(f, .sh (Den.fz o))])) :: T) (upd H1 a (.ins (Γ.cls n) dx (vs ++ [(f, v)]))) := ⟨s2.ok, s2.fix, q.perm List.perm_middle.symm⟩
        have s4 := s3.back hx
        rw [List.set_set] at s4
        exact k1 _ _ s4
    · exact k1.elim
  · exact k1.elim
end
section
variable {X : Cx} {Γ : Gb} {P : Nat → Bool} {W : WX} {e : Expr} {te : TE} {g : aE} {c : Nat} {f x : Str} {pn p' pos : Pos}
theorem as_fld (i : Nat) (hK : X.K = Γ.K) (cc : Cls Γ.K (Γ.cls c)) (na : NoAttr Γ.K (Γ.cls c) f) (he : AE X Γ P W e te g) (hN : X.N[i]? = some x := by rfl) (hv : Vis X.env.scope x := by first | exact Or.inl rfl | exact Or.inr (Or.inl rfl) | exact Or.inr (Or.inr rfl)) (hd : (x == ("__debug__" : Str)) = false := by decide)
    (hcd : (x == ("__classdict__" : Str)) = false := by decide) (hs : swapsWith e (some (.Attribute (.Name x pn) f p')) pos.line X.env = pure false := by rfl) : AS X Γ P W (.Assign [.Attribute (.Name x pn) f p'] e pos) (sFld Γ.K (tVar i) te f) (sFldP i c f g) :=
  ⟨hK ▸ ps_fld (pe_var hN hv hd hcd) he.pe hs, ss_fld cc na he.sx⟩
end
/-! ### C(..) -/
def aNew (c n : Nat) (ods : List Od) (den : aF) : aE := fun ρ => (evA ods ρ).bind fun rs ρ1 => match tak ρ1 rs with
  | some (os, ρ2) => if os.length = n then match den (.obj c [] :: os) with
      | .ret (.sh .non) (o' :: os') => if os'.length = n then .ok o' (giv ρ2 rs os') else .stuck
      | .exc x (_ :: os') => if os'.length = n then .exc x (giv ρ2 rs os') else .stuck
      | _ => .stuck
    else .stuck
  | none => .stuck
def tNewS (C : Addr) (sp : Sp) (E : L2.St → XK) (t : TA) : TE := fun σ H Q => t σ H fun vs H1 => ∀ x dx, H1 x = none → H1 dx = none → dx ≠ x → sp (.ref x :: vs) (upd (upd H1 dx (.own x)) x (.ins C dx [])) (fun v H2 => v = .non ∧ Q (.ref x) H2) (E σ)
section
variable {X : Cx} {pins : List (Addr × Obj)} {σ : L2.St} {H : Hp} {s : Shared} {CX : CXT} {k : Nat} {f C : Addr} {fd : FuncData} {ps : List Str} {sp : Sp} {E : L2.St → XK} {x m : Str} {p pos apos : Pos} {e o : Expr} {es : List Expr} {ta : TE} {t : TA}
theorem run_makeS {Q : VK} {us : List Value} {vs : List V} (M : Mk X.K C f) (F : FnOk X.prog X.w X.K X.mg X.base CX k f fd ps sp) (hr : Room (k + 1) X.A) (hb : Binds X.K fd ps []) (hx : PassesAt CX X σ (E σ)) (I : Inv X pins σ H s) (r : Vals vs us)
    (h : ∀ x dx, H x = none → H dx = none → dx ≠ x → sp (.ref x :: vs) (upd (upd H dx (.own x)) x (.ins C dx [])) (fun v H2 => v = .non ∧ Q (.ref x) H2) (E σ)) :
    wpAny (model X.prog X.w) X.A (PySem.call (.ref C) us) (EP X pins σ Q) X.xe s := by
  have hq := h (s.heap.objs.size + 1) s.heap.objs.size (I.hok.fresh (Nat.le_succ _)) (I.hok.fresh (Nat.le_refl _)) (Nat.ne_of_lt (Nat.lt_succ_self _))
  have I2 := Inv.made (C := C) I
  have r2 : Vals (V.ref (s.heap.objs.size + 1) :: vs) (Value.ref (s.heap.objs.size + 1) :: us) := .cons rfl r
  have hl : (Value.ref (s.heap.objs.size + 1) :: us).length = ps.length := by
    have e := r2.length
    rw [F.len _ _ _ _ hq] at e
    exact e.symm
  refine wpAny_call (make_map (f := f) I.kIn M.makes M.init (beq_iff_eq.mp M.fn) (codeAny_mono (F.run _ X.stack _ _ ⟨Value.ref (s.heap.objs.size + 1) :: us, []⟩ (Value.ref (s.heap.objs.size + 1) :: us) _ _ (E σ) (hr.make C us [])
    (I2.env0.make C us []) (by
      have z := hb _ (Value.ref (s.heap.objs.size + 1) :: us) I2.kIn (by rw [List.append_nil]; exact hl)
      rw [List.append_nil] at z
      exact z) r2 hq) fun r s' hq' => ?_))
  cases r with
  | error e => exact hx pins _ _ e s' I2 hq'
  | ok fl =>
    cases fl with
    | ret u =>
      obtain ⟨v, H', I3, rv, ev, q3⟩ := I2.after hq'
      subst ev
      exact ⟨rv, ⟨V.ref (s.heap.objs.size + 1), H', I3, rfl, q3⟩⟩
    | next => exact False.elim hq'
    | brk => exact False.elim hq'
    | cont => exact False.elim hq'
theorem pe_newS (M : Mk X.K C f) (F : FnOk X.prog X.w X.K X.mg X.base CX k f fd ps sp) (hr : Room (k + 1) X.A) (hg : Gl X x) (hm : X.mg x = some (.ref C)) (hb : Binds X.K fd ps []) (hx : ∀ σ, PassesAt CX X σ (E σ))
    (ha : PA X (e :: es) t) (hdb : (x == ("__debug__" : Str)) = false := by decide) (he : starEach (e :: es) X.env = (false, eval e X.env) :: starEach es X.env := by rfl) (hpl : (backTo pos (starEach es X.env)).any (·.1) = false := by rfl) :
    PE X (.Call (.Name x p) (e :: es) [] pos) (tNewS C sp E t) := by
  refine ⟨fun pins s σ H Q I h => ?_⟩
  refine wpAny_Call_Name_kw (ld_glob I hg hm ?_ hdb)
  refine PySem.W.callWith_K (h₀ := X.base) I.ok.mod.kin M.kp (thn (ha.run pos pins s σ H _ I h) fun us s1 ⟨vs, H1, I1, r, q⟩ => ⟨I1.kIn, ?_⟩) he hpl
  exact run_makeS M F hr hb (hx σ) I1 r q
end
/-- a class x, made of n arguments -/
structure ClN (Γ : Gb) (mg : Str → Option Value) (base : Heap) (k : Nat) (x : Str) (c n : Nat) (den : aF) : Prop where
  ex : ∃ (f : Addr) (fd : FuncData) (ps : List Str), FnOk Γ.prog Γ.w Γ.K mg base (L2.CX Γ.prog Γ.w) k f fd ps (spD Γ (n + 1) den) ∧ Mk Γ.K (Γ.cls c) f ∧ mg x = some (.ref (Γ.cls c)) ∧ Binds Γ.K fd ps []
section
variable {Γ : Gb} {P : Nat → Bool} {W : WX} {ta : TA} {ods : List Od} {c n : Nat} {den : aF}
theorem sx_new (ha : Sa Γ P W ta ods) : Sx Γ P W (tNewS (Γ.cls c) (spD Γ (n + 1) den) (WE W) ta) (aNew c n ods den) := fun f σ ρ T H Q s k => by
  refine ha f σ ρ T H _ s ((Good.bind k).imp fun rs ρ1 k vs T' H1 m s1 => ?_)
  split at k
  · rename_i os ρ2 et
    split at k
    · rename_i hn
      obtain ⟨s2, hl⟩ := tak_ok m s1 et
      intro x dx hx hdx hne
      have n1 : NoT (.own x) := fun _ z => by cases z
      have r1 : RS Γ f.c (vs.zip os ++ (slotsR σ ρ2 ++ T)) (upd H1 dx (.own x)) := ((s2.rs.perm (List.perm_append_comm_assoc _ _ _)).new hdx n1).letgo
      have hx1 : upd H1 dx (.own x) x = none := by rw [upd_ne (Ne.symm hne)]; exact hx
      have r2 : RS Γ f.c ((.ref x, .obj c []) :: (vs.zip os ++ (slotsR σ ρ2 ++ T))) (upd (upd H1 dx (.own x)) x (.ins (Γ.cls c) dx [])) :=
        RSL.closeO (rs := []) (vs := []) (fs := []) (r1.new hx1 (u := .ins (Γ.cls c) dx []) noT_ins) upd_same rfl rfl rfl
      have r3 : RS Γ f.c (((.ref x, .obj c []) :: vs.zip os) ++ (slotsR σ ρ2 ++ T)) (upd (upd H1 dx (.own x)) x (.ins (Γ.cls c) dx [])) := r2
      obtain ⟨e, eH, r4, back⟩ := r3.enter
      have again : ∀ (Y : List (V × O)) (os' : List O) H', os'.length = n → RS Γ e (Y ++ vs.zip os') H' → SR Γ P f σ (giv ρ2 rs os') (Y ++ T) H' := by
        intro Y os' H' ho r
        have b := back _ H' r
        have s3 : SR Γ P f σ ρ2 (vs.zip os' ++ (Y ++ T)) H' := ⟨s2.ok, s2.fix, b.perm (by
          rw [List.append_assoc]
          refine (List.perm_append_comm_assoc Y _ _).trans ?_
          refine ((List.perm_append_comm_assoc Y _ _).append_left _).trans ?_
          exact List.perm_append_comm_assoc _ _ _)⟩
        exact giv_ok m s3 (by omega)
      refine ⟨by rw [List.length_cons]; omega, e, .obj c [] :: os, by rw [List.length_cons]; omega, r4, ?_⟩
      split at k
      · rename_i o' os' ed
        split at k
        · rename_i ho
          simp only [ed]
          refine ⟨by rw [List.length_cons]; omega, fun v H' r => ?_⟩
          rw [List.zip_cons_cons] at r
          have ev : v = .non := by
            obtain ⟨S, sb, rr⟩ := r.sh (d := .non) List.mem_cons_self
            cases rr
            rfl
          exact ⟨ev, k _ H' (again [(.ref x, o')] os' H' ho r.drop)⟩
        · exact k.elim
      · rename_i xn oo os' ed
        split at k
        · rename_i ho
          simp only [ed]
          refine ⟨by rw [List.length_cons]; omega, fun cls d H' r => k cls d H' ?_⟩
          obtain ⟨ec, r⟩ := r
          refine ⟨ec, ?_⟩
          obtain ⟨xc, xfs⟩ := xn
          cases xfs with
          | none =>
            refine ⟨r.1, again [] os' H' ho ?_⟩
            have z := r.2
            rw [List.zip_cons_cons] at z
            exact z.drop
          | some fs =>
            obtain ⟨dd, e1, r⟩ := r
            refine ⟨dd, e1, again [(.ref dd, .sh (.xd fs))] os' H' ho ?_⟩
            rw [List.zip_cons_cons] at r
            exact (r.perm (List.Perm.swap _ _ _)).drop
        · exact k.elim
      · exact k.elim
    · exact k.elim
  · exact k.elim
end
section
variable {X : Cx} {Γ : Gb} {P : Nat → Bool} {W : WX} {e : Expr} {es : List Expr} {ta : TA} {ods : List Od} {k c n : Nat} {x : Str} {den : aF} {p pos : Pos}
theorem ae_new (hp : X.prog = Γ.prog) (hw : X.w = Γ.w) (hK : X.K = Γ.K) (C : ClN Γ X.mg X.base k x c n den) (hr : Room (k + 1) X.A) (tk : Takes X W) (ha : AA X Γ P W (e :: es) ta ods) (hg : Gl X x := by rfl) (hdb : (x == ("__debug__" : Str)) = false := by decide)
    (he : starEach (e :: es) X.env = (false, eval e X.env) :: starEach es X.env := by rfl) (hpl : (backTo pos (starEach es X.env)).any (·.1) = false := by rfl) :
    AE X Γ P W (.Call (.Name x p) (e :: es) [] pos) (tNewS (Γ.cls c) (spD Γ (n + 1) den) (WE W) ta) (aNew c n ods den) := by
  obtain ⟨f, fd, ps, F, M, hm, hb⟩ := C.ex
  rw [← hp, ← hw, ← hK] at F
  exact ⟨pe_newS (hK ▸ M) F hr hg hm (hK ▸ hb) (fun σ => passAt tk σ) ha.pa hdb he hpl, sx_new ha.sa⟩
end
end Den
end
section
/-! Den, part AE: methods that raise nothing, == and len by an own def, isinstance of an own class. -/
namespace Den
open PySem L2 PySem.Spec PyProof.Rows
theorem permA {α : Type} (X Y T : List α) (p : α) : (X ++ (p :: (Y ++ T))).Perm (Y ++ (X ++ p :: T)) :=
  List.perm_middle.trans (((List.perm_append_comm_assoc X Y T).cons p).trans (List.perm_middle.symm.trans (List.Perm.append_left Y List.perm_middle.symm)))
theorem cxN {P : Program} {w : World} {H : Hp} {s : Shared} {e : Value} {s' : Shared} {outer : List Env} (h : L2.CX P w outer H s (fun _ _ _ => False) e s') : False := by
  obtain ⟨_, _, _, _, _, _, _, _, _, _, _, _, z⟩ := h
  exact z
theorem passN {X : Cx} {P : Program} {w : World} : Passes (L2.CX P w) X (fun _ _ _ => False) := fun _ _ _ _ _ _ _ h => (cxN h).elim
def aMth (c : Nat) (m : Str) (n : Nat) (g : aE) (ods : List Od) (den : aF) : aE := fun ρ => (g ρ).bind fun o ρ0 => match o with
  | .sh (.obj c' fs) => if c' = c ∧ fs.lookup m = none then (evA ods ρ0).bind fun rs ρ1 => match tak ρ1 rs with
      | some (os, ρ2) => if os.length = n then match den (.sh (.obj c' fs) :: os) with
          | .ret w (_ :: os') => if os'.length = n then .ok w (giv ρ2 rs os') else .stuck
          | _ => .stuck
        else .stuck
      | none => .stuck
    else .stuck
  | _ => .stuck
/-- a method m of the class c -/
structure ClM (Γ : Gb) (mg : Str → Option Value) (base : Heap) (k : Nat) (c : Nat) (m : Str) (n : Nat) (den : aF) : Prop where
  ex : ∃ (f : Addr) (fd : FuncData) (ps : List Str), FnOk Γ.prog Γ.w Γ.K mg base (L2.CX Γ.prog Γ.w) k f fd ps (spD Γ (n + 1) den) ∧ Cls Γ.K (Γ.cls c) ∧ Meth Γ.K (Γ.cls c) m f ∧ Binds Γ.K fd ps []
section
variable {Γ : Gb} {P : Nat → Bool} {W : WX} {ta : TA} {te : TE} {g : aE} {ods : List Od} {c n : Nat} {m : Str} {den : aF}
theorem sx_mth (h1 : Sx Γ P W te g) (ha : Sa Γ P W ta ods) : Sx Γ P W (tMeth (Γ.cls c) m (spD Γ (n + 1) den) [] (fun _ _ _ => False) te ta) (aMth c m n g ods den) := fun f σ ρ T H Q s k => by
  refine h1 f σ ρ T H _ s ((Good.bind k).imp fun o ρ0 k1 v H0 s0 => ?_)
  clear k
  split at k1
  · rename_i c' fs
    split at k1
    · rename_i hc
      obtain ⟨hc, hf⟩ := hc
      subst hc
      obtain ⟨S, sb, rd, ad, _⟩ := s0.rs.readS
      obtain ⟨F, r⟩ := rd (v, .sh (.obj c' fs)) (by simp)
      cases r with
      | sh r => cases r with
        | @obj a dx _ vs _ hS e1 hl =>
          refine ⟨a, dx, vs, rfl, (sb _ _ hS).1, lookup_none e1 hf, ?_⟩
          refine ha f σ ρ0 _ H0 _ s0 (((Good.bind k1).more (T' := [(.ref a, .sh (.obj c' fs))])).imp fun rs ρ1 k2 ws T' H1 mt s1 => ?_)
          clear k1
          split at k2
          · rename_i os ρ2 et
            split at k2
            · rename_i hn
              obtain ⟨s2, hlen⟩ := tak_ok mt s1 et
              have r0 : RS Γ f.c (((.ref a, .sh (.obj c' fs)) :: ws.zip os) ++ (slotsR σ ρ2 ++ T)) H1 := s2.rs.perm (by
                refine (List.perm_append_comm_assoc _ _ _).trans ?_
                refine (List.Perm.append_left _ List.perm_middle).trans ?_
                exact List.perm_middle)
              obtain ⟨e, eH, r1, back⟩ := r0.enter
              refine ⟨by rw [List.length_cons, List.length_append, List.length_nil]; omega, e, .sh (.obj c' fs) :: os, by rw [List.length_cons]; omega, by rw [List.append_nil]; exact r1, ?_⟩
              split at k2
              · rename_i w oo os' ed
                split at k2
                · rename_i ho
                  simp only [ed]
                  refine ⟨by rw [List.length_cons]; omega, fun u H' r => ?_⟩
                  rw [List.append_nil, List.zip_cons_cons] at r
                  have r' : RS Γ e ([(u, w)] ++ ws.zip os') H' := (r.perm (List.Perm.swap _ _ _)).drop
                  have b := back _ H' r'
                  have s3 : SR Γ P f σ ρ2 (ws.zip os' ++ ((u, w) :: T)) H' := ⟨s2.ok, s2.fix, b.perm (show ((u, w) :: (ws.zip os' ++ (slotsR σ ρ2 ++ T))).Perm _ from List.perm_middle.symm.trans (permA _ _ _ _))⟩
                  exact k2 u H' (giv_ok mt s3 (by omega))
                · exact k2.elim
              · exact k2.elim
            · exact k2.elim
          · exact k2.elim
    · exact k1.elim
  · exact k1.elim
end
section
variable {X : Cx} {Γ : Gb} {P : Nat → Bool} {W : WX} {o e : Expr} {es : List Expr} {te : TE} {g : aE} {ta : TA} {ods : List Od} {k c n : Nat} {m : Str} {den : aF} {apos pos : Pos} {pl : Sem Bool}
theorem ae_mth (hp : X.prog = Γ.prog) (hw : X.w = Γ.w) (hK : X.K = Γ.K) (C : ClM Γ X.mg X.base k c m n den) (hr : Room k X.A) (ho : AE X Γ P W o te g) (ha : AA X Γ P W (e :: es) ta ods)
    (hst : starEach (e :: es) X.env = (false, eval e X.env) :: starEach es X.env := by rfl) (hpl : (backTo pos (starEach es X.env)).any (·.1) = false := by rfl)
    (ht : eval (.Call (.Attribute o m apos) (e :: es) [] pos) X.env = (do
      let ov ← eval o X.env
      standAt apos.atName
      let (f, first) ← holding [ov] (getMethod ov m pl)
      callWith pos f first (backTo pos (starEach (e :: es) X.env)) (backToKw pos (keywordEach [] X.env))) := by rfl) :
    AE X Γ P W (.Call (.Attribute o m apos) (e :: es) [] pos) (tMeth (Γ.cls c) m (spD Γ (n + 1) den) [] (fun _ _ _ => False) te ta) (aMth c m n g ods den) := by
  obtain ⟨f, fd, ps, F, cl, hm, hb⟩ := C.ex
  rw [← hp, ← hw, ← hK] at F
  exact ⟨pe_meth (pl := pl) ho.pe (hK ▸ cl) (hK ▸ hm) F hr (hK ▸ hb) .nil passN ha.pa hst hpl ht, sx_mth ho.sx ha.sa⟩
theorem ae_mth0 (hp : X.prog = Γ.prog) (hw : X.w = Γ.w) (hK : X.K = Γ.K) (C : ClM Γ X.mg X.base k c m 0 den) (hr : Room k X.A) (ho : AE X Γ P W o te g)
    (ht : eval (.Call (.Attribute o m apos) [] [] pos) X.env = (do
      let ov ← eval o X.env
      standAt apos.atName
      let (f, first) ← holding [ov] (getMethod ov m pl)
      callWith pos f first (backTo pos (starEach [] X.env)) (backToKw pos (keywordEach [] X.env))) := by rfl) :
    AE X Γ P W (.Call (.Attribute o m apos) [] [] pos) (tMeth (Γ.cls c) m (spD Γ 1 den) [] (fun _ _ _ => False) te tNil) (aMth c m 0 g [] den) := by
  obtain ⟨f, fd, ps, F, cl, hm, hb⟩ := C.ex
  rw [← hp, ← hw, ← hK] at F
  exact ⟨pe_meth0 (pl := pl) ho.pe (hK ▸ cl) (hK ▸ hm) F hr (hK ▸ hb) .nil passN ht, sx_mth ho.sx sa_nil⟩
end
/-! ### a == b, a an object whose class has its own == -/
structure ClE (Γ : Gb) (mg : Str → Option Value) (base : Heap) (k : Nat) (c : Nat) (den : aF) : Prop where
  ex : ∃ (f : Addr) (fd : FuncData) (ps : List Str), FnOk Γ.prog Γ.w Γ.K mg base (L2.CX Γ.prog Γ.w) k f fd ps (spD Γ 2 den) ∧ PySem.W.findIn Γ.K (.ref (Γ.cls c)) "__eq__" = some (some (.ref f)) ∧ PySem.W.isFn Γ.K (.ref f) = true ∧ Binds Γ.K fd ps [] ∧
    PySem.W.notFirst Γ.K (Γ.cls c) (.type "tuple") = true
def eqI (den : aF) (x y : O) : Option O := match den [x, y] with
  | .ret (.sh (.bl b)) [_, _] => some (.sh (.bl b))
  | _ => none
def gEqI (c : Nat) (den : aF) : O → O → Option O
  | .sh (.obj n fs), .sh (.obj n2 gs) => if n = c ∧ n2 = c then eqI den (.sh (.obj n fs)) (.sh (.obj n2 gs)) else none
  | .sh (.obj n fs), .sh (.tup ds) => if n = c then eqI den (.sh (.obj n fs)) (.sh (.tup ds)) else none
  | _, _ => none
def rEqI (Γ : Gb) (c : Nat) (den : aF) : R2 := fun x y H Q => ∃ a b dx fs, x = .ref a ∧ y = .ref b ∧ H a = some (.ins (Γ.cls c) dx fs) ∧ ((∃ dy gs, H b = some (.ins (Γ.cls c) dy gs)) ∨ ∃ xs, H b = some (.tup xs)) ∧
  spD Γ 2 den [x, y] H (fun v H' => ∃ b, v = .bl b ∧ Q v H') (fun _ _ _ => False)
theorem or_eqI {X : Cx} {Γ : Gb} {c k : Nat} {den : aF} (hp : X.prog = Γ.prog) (hw : X.w = Γ.w) (hK : X.K = Γ.K) (C : ClE Γ X.mg X.base k c den) (hr : Room k X.A) : OpR X (compareOp .Eq) (rEqI Γ c den) := by
  obtain ⟨f, fd, ps, F, hs, hf, hb, nf⟩ := C.ex
  rw [← hp, ← hw, ← hK] at F
  intro pins s σ H x y u v Q I rx ry h
  obtain ⟨a, b, dx, fs, rfl, rfl, ha, hy, hsp⟩ := h
  cases rx
  cases ry
  obtain ⟨mA, J, _⟩ := ins_get I.hok ha
  obtain ⟨od, J, _⟩ := J.look
  obtain ⟨m, hF⟩ := I.fr
  have lk : ∃ tb, PySem.W.Looks (model X.prog X.w) s.heap (typeOf (.ref b)) tb ∧ PySem.W.notFirst X.K (Γ.cls c) tb = true := by
    rcases hy with ⟨dy, gs, hb'⟩ | ⟨xs, hb'⟩
    · obtain ⟨mB, J', _⟩ := ins_get I.hok hb'
      obtain ⟨od', J', _⟩ := J'.look
      exact ⟨_, J'.type, by simp [PySem.W.notFirst]⟩
    · obtain ⟨_, its, _, o, h1, h2, _⟩ := (show ObjOk X.prog X.w H s.heap b (.tup xs) from I.hok b _ hb')
      exact ⟨.type "tuple", fun A Q E s k q => wpAny_typeOf_ref (k _ _ h1) (by rw [h2]; exact q), by rw [hK]; exact nf⟩
  obtain ⟨tb, lk, hn⟩ := lk
  show wpAny (model X.prog X.w) X.A (richCompare .Eq (.ref a) (.ref b)) (EP X pins σ Q) X.xe s
  refine PySem.W.cmp_K (op := .Eq) (tb := tb) hr.units0 hF I.ok.mod.kin J lk hn (by rw [hK]; exact hs) (by rw [hK]; exact hf) ?_
  have r2 : Vals [V.ref a, V.ref b] [Value.ref a, Value.ref b] := .cons rfl (.cons rfl .nil)
  refine wpAny_mono (run_fn (E := fun _ _ _ => False) (vs := [V.ref a, V.ref b]) (dvs := []) (ds := []) F hr (hK ▸ hb) .nil passN I r2 hsp) (fun w s' q => ?_) fun _ _ x => x
  obtain ⟨z, H', I', rz, ⟨bb, ez, q⟩⟩ := q
  subst ez
  cases rz
  exact ⟨.bl bb, H', I', rfl, q⟩
theorem ok_eqI {Γ : Gb} {c : Nat} {den : aF} : Op2 Γ (rEqI Γ c den) (gEqI c den) := by
  intro ce R H x ox y oy w Q h m1 m2 e k
  have core : ∀ d1 d2, ox = .sh d1 → oy = .sh d2 → eqI den (.sh d1) (.sh d2) = some w → spD Γ 2 den [x, y] H (fun v H' => ∃ b, v = .bl b ∧ Q v H') (fun _ _ _ => False) := by
    rintro d1 d2 rfl rfl he
    have r0 : RS Γ ce ([(x, .sh d1), (y, .sh d2)] ++ R) H := (h.dup m2).dup (List.mem_cons_of_mem _ m1)
    obtain ⟨en, eH, r1, back⟩ := r0.enter
    refine ⟨rfl, en, [.sh d1, .sh d2], rfl, r1, ?_⟩
    unfold eqI at he
    split at he
    · rename_i b o1 o2 ed
      cases he
      simp only [ed]
      refine ⟨rfl, fun v H' r => ?_⟩
      have ev : v = .bl b := by
        obtain ⟨S, sb, rr⟩ := r.sh (d := .bl b) List.mem_cons_self
        cases rr
        rfl
      subst ev
      refine ⟨b, rfl, k _ _ ?_⟩
      have b' := back [(.bl b, .sh (.bl b)), (x, o1), (y, o2)] H' r
      exact ((b'.perm (show ([(V.bl b, O.sh (.bl b)), (x, o1), (y, o2)] ++ R).Perm ([(x, o1), (y, o2)] ++ ((V.bl b, O.sh (.bl b)) :: R)) from (List.perm_middle (l₁ := [(x, o1), (y, o2)])).symm))).dropL
    · cases he
  obtain ⟨S, sb, rd, _⟩ := h.readS
  unfold gEqI at e
  split at e
  · rename_i n fs n2 gs
    split at e
    · rename_i hn
      obtain ⟨h1, h2⟩ := hn
      subst h1
      subst h2
      obtain ⟨F1, q1⟩ := rd _ m1
      obtain ⟨F2, q2⟩ := rd _ m2
      have z := core _ _ rfl rfl e
      cases q1 with
      | sh q1 => cases q1 with
        | obj ha _ _ => cases q2 with
          | sh q2 => cases q2 with
            | obj hb _ _ => exact ⟨_, _, _, _, rfl, rfl, (sb _ _ ha).1, .inl ⟨_, _, (sb _ _ hb).1⟩, z⟩
    · cases e
  · rename_i n fs ds
    split at e
    · rename_i hn
      subst hn
      obtain ⟨F1, q1⟩ := rd _ m1
      obtain ⟨F2, q2⟩ := rd _ m2
      have z := core _ _ rfl rfl e
      cases q1 with
      | sh q1 => cases q1 with
        | obj ha _ _ => cases q2 with
          | sh q2 => cases q2 with
            | tup hb _ => exact ⟨_, _, _, _, rfl, rfl, (sb _ _ ha).1, .inr ⟨_, (sb _ _ hb).1⟩, z⟩
    · cases e
  · cases e
/-! ### len(o), o an object whose class has its own __len__ -/
structure ClL (Γ : Gb) (mg : Str → Option Value) (base : Heap) (k : Nat) (c : Nat) (den : aF) : Prop where
  ex : ∃ (f : Addr) (fd : FuncData) (ps : List Str), FnOk Γ.prog Γ.w Γ.K mg base (L2.CX Γ.prog Γ.w) k f fd ps (spD Γ 1 den) ∧ PySem.W.findIn Γ.K (.ref (Γ.cls c)) "__len__" = some (some (.ref f)) ∧ PySem.W.isFn Γ.K (.ref f) = true ∧ Binds Γ.K fd ps []
def gLenI (c : Nat) (den : aF) : O → Option O
  | .sh (.obj n fs) => if n = c then match den [.sh (.obj n fs)] with
      | .ret (.sh (.int i)) [_] => if 0 ≤ i ∧ i < 2 ^ 63 then some (.sh (.int i)) else none
      | _ => none
    else none
  | _ => none
def rLenI (Γ : Gb) (c : Nat) (den : aF) : List V → Hp → VK → Prop := fun xs H Q => ∃ a dx fs, xs = [.ref a] ∧ H a = some (.ins (Γ.cls c) dx fs) ∧ spD Γ 1 den [.ref a] H (fun v H' => ∃ i, v = .int i ∧ (0 ≤ i ∧ i < 2 ^ 63) ∧ Q v H') (fun _ _ _ => False)
theorem cr_lenI {X : Cx} {Γ : Gb} {c k : Nat} {den : aF} (hp : X.prog = Γ.prog) (hw : X.w = Γ.w) (hK : X.K = Γ.K) (C : ClL Γ X.mg X.base k c den) (hr : Room (k + 1) X.A) : CallR X (.builtin "len") (rLenI Γ c den) := by
  obtain ⟨f, fd, ps, F, hs, hf, hb⟩ := C.ex
  rw [← hp, ← hw, ← hK] at F
  intro pins s σ H xs us Q I r h
  obtain ⟨a, dx, fs, rfl, ha, hsp⟩ := h
  obtain ⟨u, rfl, rx⟩ := r.one
  cases rx
  obtain ⟨mA, J, _⟩ := ins_get I.hok ha
  obtain ⟨od, J, _⟩ := J.look
  obtain ⟨m, hF⟩ := I.fr
  refine PySem.W.len_K hF I.ok.mod.kin J (by rw [hK]; exact hs) (by rw [hK]; exact hf) ?_
  have e0 : Env0 X.prog X.w X.K X.mg X.base X.A.in1 X.stack s H := I.env0.in1
  have hl := F.len _ _ _ _ hsp
  refine wpAny_call (codeAny_mono (F.run X.A.in1 X.stack s H ⟨[.ref a], []⟩ [.ref a] [.ref a] _ _ hr.in1 e0 (by
    have z := (hK ▸ hb : Binds X.K fd ps []) s [.ref a] I.kIn (by simpa using hl)
    simpa using z) (.cons rfl .nil) hsp) fun r s' hq => ?_)
  cases r with
  | error e => exact (cxN (show L2.CX X.prog X.w X.stack H s (fun _ _ _ => False) e s' from hq)).elim
  | ok fl =>
    cases fl with
    | ret w =>
      obtain ⟨z, H', I', rz, ⟨i, ez, hi, q⟩⟩ := I.after hq
      subst ez
      obtain ⟨t, rfl⟩ := (show ∃ t, w = Value.int i t from rz)
      exact ⟨hi, .int i, H', I'.tok _, ⟨_, rfl⟩, q⟩
    | next => exact False.elim hq
    | brk => exact False.elim hq
    | cont => exact False.elim hq
theorem ok_lenI {Γ : Gb} {c : Nat} {den : aF} : Op1 Γ (C1 (rLenI Γ c den)) (gLenI c den) := by
  intro ce R H x ox w Q h m e k
  obtain ⟨S, sb, rd, _⟩ := h.readS
  unfold gLenI at e
  split at e
  · rename_i n fs
    split at e
    · rename_i hn
      subst hn
      obtain ⟨F1, q1⟩ := rd _ m
      cases q1 with
      | sh q1 => cases q1 with
        | obj ha _ _ =>
          refine ⟨_, _, _, rfl, (sb _ _ ha).1, ?_⟩
          have r0 : RS Γ ce ([(V.ref _, .sh (.obj n fs))] ++ R) H := h.dup m
          obtain ⟨en, eH, r1, back⟩ := r0.enter
          refine ⟨rfl, en, [.sh (.obj n fs)], rfl, r1, ?_⟩
          split at e
          · rename_i i o1 ed
            split at e
            · rename_i hi
              cases e
              simp only [ed]
              refine ⟨rfl, fun v H' r => ?_⟩
              have ev : v = .int i := by
                obtain ⟨S, sb, rr⟩ := r.sh (d := .int i) List.mem_cons_self
                cases rr
                rfl
              subst ev
              refine ⟨i, rfl, hi, k _ _ ?_⟩
              have b' := back [(.int i, .sh (.int i)), (V.ref _, o1)] H' r
              exact (b'.perm (List.Perm.swap _ _ _)).drop
            · cases e
          · cases e
    · cases e
  · cases e
/-! ### isinstance(x, C), C an own class -/
structure ClI (Γ : Gb) (mg : Str → Option Value) (x : Str) (c : Nat) : Prop where
  hm : mg x = some (.ref (Γ.cls c))
  cl : Cls Γ.K (Γ.cls c)
  ha : PySem.W.findIn Γ.K (.ref (Γ.cls c)) "__class__" = some (some (.builtin "object.__class__"))
  hn : PySem.W.specialIn Γ.K (.builtin "object.__class__") "__get__" = some (some (.builtin "getset_descriptor.__get__"))
  htk : PySem.W.takesIn Γ.K (.builtin "object.__class__") = some true
  ho : PySem.W.mroIn Γ.K (Γ.cls c) (.type "object") = some true
  me : PySem.W.kitOne Γ.K (.ref (Γ.cls c)) (.ref (Γ.cls c)) = some true
  no : ∀ t ∈ ["NoneType", "bool", "int", "str", "tuple", "list", "dict"], PySem.W.kitOne Γ.K (.type t) (.ref (Γ.cls c)) = some false
def gIsC (c : Nat) (o : O) : Option O := match fz o with
  | .obj n _ => if n = c then some (.sh (.bl true)) else none
  | d => (tyN d).map fun _ => .sh (.bl false)
theorem ok_isC {Γ : Gb} {mg : Str → Option Value} {x : Str} {c : Nat} (C : ClI Γ mg x c) : Op1 Γ (fun x H Q => rIsi Γ.K [x, .ref (Γ.cls c)] H Q) (gIsC c) := by
  intro ce R H x ox w Q h m e k
  have rp := h.rep m
  unfold gIsC at e
  split at e
  · rename_i n fs ef
    split at e
    · rename_i hn
      subst hn
      cases e
      rw [ef] at rp
      cases rp with
      | obj ha e1 hl => exact ⟨_, _, _, _, true, rfl, .own _, .base (.ins ha C.cl C.ha C.hn C.htk C.ho), C.me, k _ _ (h.pure fun _ => .bl _)⟩
    · cases e
  · simp only [Option.map_eq_some_iff] at e
    obtain ⟨t, et, rfl⟩ := e
    refine ⟨x, _, _, _, false, rfl, .own _, ty_of rp et, C.no t ?_, k _ _ (h.pure fun _ => .bl _)⟩
    rcases tyN_ok et with rfl | rfl | rfl | rfl | rfl | rfl | rfl <;> simp
section
variable {X : Cx} {Γ : Gb} {P : Nat → Bool} {W : WX} {a : Expr} {ta : TE} {oa : Od} {c : Nat} {xt : Str} {pn pt pos : Pos}
theorem ae_isC (hK : X.K = Γ.K) (hm : X.mg "isinstance" = none) (C : ClI Γ X.mg xt c) (ha : AO X Γ P W a ta oa)
    (hb : bootBuiltins "isinstance" = some (.builtin "isinstance") := by decide +kernel) (hg : Gl X "isinstance" := by rfl) (hgt : Gl X xt := by rfl) (hdt : (xt == ("__debug__" : Str)) = false := by decide)
    (he : starEach (a :: [.Name xt pt]) X.env = (false, eval a X.env) :: starEach [.Name xt pt] X.env := by rfl) (he2 : starEach (.Name xt pt :: []) X.env = (false, eval (.Name xt pt) X.env) :: starEach [] X.env := by rfl)
    (hpl : (backTo pos (starEach [.Name xt pt] X.env)).any (·.1) = false := by rfl) :
    AE X Γ P W (.Call (.Name "isinstance" pn) [a, .Name xt pt] [] pos) (tCB (rIsi Γ.K) (tCons ta (tCons (tC (.ref (Γ.cls c))) tNil))) (aOp [oa] (l1 (gIsC c))) :=
  ⟨hK ▸ pe_callB call_isi hg hm hb (pa_cons ha.pe (pa_cons (pe_glob hgt C.hm rfl hdt) pa_nil he2) he) (by decide) (by decide) he hpl,
    show Sx Γ P W (fun σ H Q => ta σ H fun x H1 => (fun x H Q => rIsi Γ.K [x, .ref (Γ.cls c)] H Q) x H1 Q) _ from sx_op1 (ha.sa sa_nil) (ok_isC C)⟩
end
end Den
end
section
/-! Den, part AF: raise C(..), C an own error whose __init__ only sets its fields; try .. except C as e: found = [..]. -/
namespace Den
open PySem L2 PySem.Spec PyProof.Rows
/-! ### shared from its birth -/
section
variable {Γ : Gb} {c : Ent} {R : List (V × O)} {H : Hp}
theorem RS.shareNew (h : RS Γ c R H) {p : Addr} (hp : H p = none) {u : HO} (hu : NoT u) {d : D} (r : ∀ S, S p = none → (∀ q ∈ R, ∃ F, OR Γ S H q.1 q.2 F) → Rep Γ (upd S p u) (.ref p) d) : RS Γ c ((.ref p, .sh d) :: R) (upd H p u) := by
  obtain ⟨S, F, st, q, nd, dj, sb, lc⟩ := h
  rw [List.append_nil] at st nd dj
  have rl := r S (sub_free sb hp) fun p m => by
    obtain ⟨G, x, _⟩ := q.mem m
    exact ⟨G, x⟩
  have nS : S p = none := sub_free sb hp
  have nF : ∀ a ∈ F, a ≠ p := fun a m e => by
    obtain ⟨u, hu, _⟩ := q.dom a m
    rw [e, hp] at hu
    cases hu
  have keep : ∀ a o, H a = some o → upd H p u a = some o := fun a o e => by
    rw [upd_ne (ne_of_none e hp)]
    exact e
  have S1 : ∀ a o, S a = some o → upd S p u a = some o := fun a o e => by
    rw [upd_ne fun z => by rw [z, nS] at e; cases e]
    exact e
  refine ⟨upd S p u, F, ⟨fun a o e => S1 a o (st.shr a o e), fun a o e n m => keep a o (st.frm a o e n m), fun a e => ?_, fun a m => st.own a (by simpa using m), fun a e => ?_⟩, .cons (F := []) (.sh rl) (q.mono S1 fun a m o e => keep a o e), by simpa using nd, fun a m => ?_, fun a o e => ?_, fun a m => by cases m⟩
  · by_cases ha : a = p
    · rw [ha, upd_same] at e
      cases e
    · rw [upd_ne ha] at e
      exact st.dom a e
  · by_cases ha : a = p
    · rw [ha]
      exact .inr (.inr (.inl (st.dom p hp)))
    · rw [upd_ne ha] at e
      exact st.sgr a e
  · have m' : a ∈ F := by simpa using m
    rw [upd_ne (nF a m')]
    exact dj a m'
  · by_cases ha : a = p
    · rw [ha, upd_same] at e
      cases e
      rw [ha]
      exact ⟨upd_same, hu⟩
    · rw [upd_ne ha] at e
      exact ⟨keep a o (sb a o e).1, (sb a o e).2⟩
theorem noT_xd {fs : List (Str × V)} : NoT (.xd fs) := fun _ z => by cases z
end
/-! ### raise -/
/-- what the __init__ of such an error keeps -/
def spX (Γ : Gb) (c : Nat) (fields : List Str) : Sp := fun vs H Q _ => ∃ a ws, vs = .ref a :: ws ∧ ws.length = fields.length ∧ H a = some (exo a (Γ.cls c) none) ∧
  ∀ dx, H dx = none → dx ≠ a → Q .non (upd (upd H dx (exd dx (fields.zip ws).reverse)) a (exo a (Γ.cls c) (some dx)))
structure ClX (Γ : Gb) (mg : Str → Option Value) (base : Heap) (k : Nat) (x : Str) (c : Nat) (fields : List Str) : Prop where
  ex : ∃ (f : Addr) (fd : FuncData) (ps : List Str), FnOk Γ.prog Γ.w Γ.K mg base (L2.CX Γ.prog Γ.w) k f fd ps (spX Γ c fields) ∧ OexC Γ.K (Γ.cls c) ∧ PySem.W.findIn Γ.K (.ref (Γ.cls c)) "__init__" = some (some (.ref f)) ∧ PySem.W.typeIn Γ.K (.ref f) = some (.type "function") ∧
    mg x = some (.ref (Γ.cls c)) ∧ Binds Γ.K fd ps []
def sRaise (c : Nat) (fields : List Str) (ods : List Od) : aS := fun ρ => (evA ods ρ).out fun rs ρ1 => match rsv ρ1 rs with
  | some os => match shs os with
    | some ds => if ds.length = fields.length ∧ ds.length ≤ 10 then .exc ⟨.own c, some (fields.zip ds).reverse⟩ ρ1 else .stuck
    | none => .stuck
  | none => .stuck
section
variable {Γ : Gb} {P : Nat → Bool} {W : WX} {ta : TA} {ods : List Od} {c : Nat} {fields : List Str}
theorem repL_rev {S : Hp} : ∀ {vs : List V} {es : List D}, RepL Γ S vs es → RepL Γ S vs.reverse es.reverse
  | _, _, .nil => .nil
  | _, _, .cons a q => by
    rw [List.reverse_cons, List.reverse_cons]
    exact (repL_rev q).append (.cons a .nil)
theorem rep_fields {S : Hp} {p : Addr} {ws : List V} {ds : List D} (hl : ws.length = fields.length) (r : RepL Γ (upd S p (.xd (fields.zip ws).reverse)) ws ds) : Rep Γ (upd S p (.xd (fields.zip ws).reverse)) (.ref p) (.xd (fields.zip ds).reverse) := by
  have hl2 := r.len
  refine .xd upd_same ?_ ?_
  · rw [List.map_reverse, List.map_reverse, List.map_fst_zip (by omega), List.map_fst_zip (by omega)]
  · rw [List.map_reverse, List.map_reverse, List.map_snd_zip (by omega), List.map_snd_zip (by omega)]
    exact repL_rev r
theorem ss_raise (ha : Sa Γ P W ta ods) : Ss Γ P W (fun _ σ H => tMkO (Γ.cls c) (spX Γ c fields) [] ta σ H fun cls d H' => W cls d σ H') (sRaise c fields ods) := fun f σ ρ T H D s k => by
  refine ha f σ ρ T H _ s ((GoodS.bind k).imp fun rs ρ1 k1 vs T' H1 mt s1 => ?_)
  clear k
  split at k1
  · rename_i os eo
    split at k1
    · rename_i ds es
      split at k1
      · rename_i hc
        obtain ⟨ps, p1, p2, mem⟩ := rsv_ok mt s1 eo
        have had := s1.rs.hadAll mem (by rw [p2]; exact es)
        rw [p1] at had
        have hl := had.len
        refine ⟨by omega, fun a ha' => ?_⟩
        rw [List.append_nil]
        refine ⟨a, vs, rfl, by omega, upd_same, fun dx hdx hne => ⟨rfl, dx, (fields.zip vs).reverse, upd_same, ?_, ?_, ?_⟩⟩
        · rw [upd_ne hne, upd_same]
        · rw [upd_ne hne] at hdx
          exact hdx
        · rw [upd_ne hne] at hdx
          have eH : upd (del (upd (upd (upd H1 a (exo a (Γ.cls c) none)) dx (exd dx (fields.zip vs).reverse)) a (exo a (Γ.cls c) (some dx))) a) dx (.xd (fields.zip vs).reverse) = upd H1 dx (.xd (fields.zip vs).reverse) := by
            funext b
            by_cases hb : b = dx
            · rw [hb, upd_same, upd_same]
            · rw [upd_ne hb, upd_ne hb]
              by_cases hba : b = a
              · rw [hba, del_same, ha']
              · rw [del_ne hba, upd_ne hba, upd_ne hb, upd_ne hba]
          rw [eH]
          refine k1 σ _ _ _ ⟨rfl, dx, rfl, s1.ok, s1.fix, ?_⟩
          obtain ⟨S0, sb, rl, _, ads⟩ := had.ex
          have r0 := ads vs ds rl
          have r1 := r0.shareNew hdx (u := .xd (fields.zip vs).reverse) noT_xd (d := .xd (fields.zip ds).reverse) fun S hS k => by
            have rl2 : RepL Γ S vs ds := repL_zip rl.len fun y m => k y (List.mem_append_left _ m)
            refine rep_fields (by omega) (RepL.mono (fun b o e => ?_) rl2)
            rw [upd_ne fun z => by rw [z, hS] at e; cases e]
            exact e
          -- the rest is dropped, but for the slots and T
          have r2 : RS Γ f.c ((vs.zip (ds.map O.sh) ++ T') ++ ((.ref dx, .sh (.xd (fields.zip ds).reverse)) :: (slotsR σ ρ1 ++ T))) (upd H1 dx (.xd (fields.zip vs).reverse)) := r1.perm (by
            refine (List.Perm.cons _ ?_).trans List.perm_middle.symm
            rw [List.append_assoc]
            exact List.Perm.append_left _ (List.perm_append_comm_assoc _ _ _))
          exact r2.dropL.perm List.perm_middle.symm
      · exact k1.elim
    · exact k1.elim
  · exact k1.elim
end
section
variable {X : Cx} {Γ : Gb} {P : Nat → Bool} {W : WX} {e : Expr} {es : List Expr} {ta : TA} {ods : List Od} {k c : Nat} {x : Str} {fields : List Str} {p pos pos2 : Pos}
theorem as_raise (hp : X.prog = Γ.prog) (hw : X.w = Γ.w) (hK : X.K = Γ.K) (C : ClX Γ X.mg X.base k x c fields) (hr : Room (k + 1) X.A) (tk : Takes X W) (ha : AA X Γ P W (e :: es) ta ods) (hc : X.calm = true := by rfl) (hg : Gl X x := by rfl) (hdb : (x == ("__debug__" : Str)) = false := by decide)
    (he : starEach (e :: es) X.env = (false, eval e X.env) :: starEach es X.env := by rfl) (hpl : (backTo pos (starEach es X.env)).any (·.1) = false := by rfl) :
    AS X Γ P W (.Raise (some (.Call (.Name x p) (e :: es) [] pos)) none pos2) (fun _ σ H => tMkO (Γ.cls c) (spX Γ c fields) [] ta σ H fun cls d H' => W cls d σ H') (sRaise c fields ods) := by
  obtain ⟨f, fd, ps, F, T, iC, tI, hm, hb⟩ := C.ex
  rw [← hp, ← hw, ← hK] at F
  exact ⟨ps_raise hc tk (pmk_oex (hK ▸ T) (hK ▸ iC) (hK ▸ tI) F hr (hK ▸ hb) .nil passN hg hm ha.pa hdb he hpl), ss_raise ha.sa⟩
end
/-! ### the __init__ of such an error: two fields -/
section
variable {Γ : Gb} {c : Nat} {σ : L2.St} {H : Hp} {D : Ends} {a : Addr} {y z : V} {f1 f2 : Str}
theorem rd_init2 (T : OexC Γ.K (Γ.cls c)) (n1 : PySem.W.findIn Γ.K (.ref (Γ.cls c)) f1 = some none) (n2 : PySem.W.findIn Γ.K (.ref (Γ.cls c)) f2 = some none) (h0 : σ[0]? = some (some (.ref a))) (h1 : σ[1]? = some (some y)) (h2 : σ[2]? = some (some z)) (ha : H a = some (exo a (Γ.cls c) none))
    (k : ∀ dx, H dx = none → dx ≠ a → D.nx σ (upd (upd H dx (exd dx [(f2, z), (f1, y)])) a (exo a (Γ.cls c) (some dx)))) : tSeq (tOst Γ.K f1 (tVar 0) (tVar 1)) (tOst Γ.K f2 (tVar 0) (tVar 2)) D σ H := by
  refine ⟨y, h1, .ref a, h0, a, _, rfl, T, n1, .inl ⟨ha, fun dx hdx hne => ?_⟩⟩
  refine ⟨z, h2, .ref a, h0, a, _, rfl, T, n2, .inr ⟨dx, [(f1, y)], upd_same, ?_, by simp, ?_⟩⟩
  · rw [upd_ne hne, upd_same]
  · have e : upd (upd (upd H dx (exd dx [(f1, y)])) a (exo a (Γ.cls c) (some dx))) dx (exd dx [(f2, z), (f1, y)]) = upd (upd H dx (exd dx [(f2, z), (f1, y)])) a (exo a (Γ.cls c) (some dx)) := by
      funext b
      by_cases hb : b = dx
      · rw [hb, upd_same, upd_ne hne, upd_same]
      · rw [upd_ne hb]
        by_cases hba : b = a
        · rw [hba, upd_same, upd_same]
        · rw [upd_ne hba, upd_ne hba, upd_ne hb, upd_ne hb]
    rw [e]
    exact k dx hdx hne
end
/-! ### try: .. except C as e: found = [..] -/
inductive It where
  | c (d : D) | f (x : Str)
def itD (fs : List (Str × D)) : List It → Option (List D)
  | [] => some []
  | .c d :: r => (itD fs r).map (d :: ·)
  | .f x :: r => (fs.lookup x).bind fun d => (itD fs r).map (d :: ·)
def itT (a : Addr) (cls : Value) (d : Option Addr) (C : Addr) (i : Nat) : List It → TA
  | [] => tNil
  | .c e :: r => tCons (tC (toV e)) (itT a cls d C i r)
  | .f x :: r => tCons (tXf a cls d C x (tVar i)) (itT a cls d C i r)
def isScI : It → Bool
  | .c d => isScal d
  | .f _ => true
def sTryF (body : aS) (c i j : Nat) (its : List It) : aS := fun ρ => match body ρ with
  | .exc x ρ' => match x.cls, x.fs with
    | .own n, some fs => if n = c ∧ i < ρ'.length ∧ j < ρ'.length ∧ its.length ≤ 100 then match itD fs its with
        | some ds => .nx ((ρ'.set i none).set j (some (.lst (ds.map O.sh))))
        | none => .stuck
      else .stuck
    | _, _ => .stuck
  | o => o
section
theorem slots_wipe {σ : L2.St} {ρ : Store} (h : SlotsOk σ ρ) (x : Option V) : ∀ {i : Nat}, SlotsOk (σ.set i x) (ρ.set i none) ∧ ∃ X, (slotsR σ ρ).Perm (X ++ slotsR (σ.set i x) (ρ.set i none)) := by
  induction h with
  | nil => intro i; exact ⟨.nil, [], .refl _⟩
  | @skip y σ ρ h ih =>
    intro i
    cases i with
    | zero =>
      refine ⟨.skip h, [], ?_⟩
      rw [List.set_cons_zero, List.set_cons_zero, slotsR_skip, slotsR_skip]
      exact .refl _
    | succ i =>
      obtain ⟨a, X, c⟩ := ih (i := i)
      refine ⟨.skip a, X, ?_⟩
      rw [List.set_cons_succ, List.set_cons_succ, slotsR_skip, slotsR_skip]
      exact c
  | @keep w u σ ρ h ih =>
    intro i
    cases i with
    | zero =>
      refine ⟨.skip h, [(w, u)], ?_⟩
      rw [List.set_cons_zero, List.set_cons_zero, slotsR_skip]
      exact .refl _
    | succ i =>
      obtain ⟨a, X, c⟩ := ih (i := i)
      refine ⟨.keep a, X, ?_⟩
      rw [List.set_cons_succ, List.set_cons_succ]
      exact (c.cons (w, u)).trans List.perm_middle.symm
variable {Γ : Gb} {P : Nat → Bool} {f : Fr} {σ : L2.St} {ρ : Store} {T : List (V × O)} {H : Hp} {i : Nat}
theorem SR.wipe (h : SR Γ P f σ ρ T H) (hp : P i = false) (x : Option V) : SR Γ P f (σ.set i x) (ρ.set i none) T H := by
  obtain ⟨a, Y, p⟩ := slots_wipe (i := i) h.ok x
  refine ⟨a, fun j hj => ?_, ?_⟩
  · rw [List.getElem?_set_ne fun z => by rw [z, hj] at hp; cases hp]
    exact h.fix j hj
  · have := h.rs.perm (p.append_right T)
    rw [List.append_assoc] at this
    exact this.dropL
end
section
variable {Γ : Gb} {P : Nat → Bool} {W : WX} {tb : WX → TS} {g : aS} {c i j : Nat} {its : List It}
theorem itT_ok {a : Addr} {d : Addr} {S H : Hp} {σ : L2.St} {vs : List (Str × V)} {fs : List (Str × D)} (hi : σ[i]? = some (some (.ref a))) (hd : H d = some (.xd vs)) (e1 : fs.map Prod.fst = vs.map Prod.fst) (rl : RepL Γ S (vs.map Prod.snd) (fs.map Prod.snd)) :
    ∀ {its : List It} {ds : List D}, its.all isScI = true → itD fs its = some ds → ∃ ws, RepL Γ S ws ds ∧ ∀ R : List V → Hp → Prop, R ws H → itT a (.ref (Γ.cls c)) (some d) (Γ.cls c) i its σ H R
  | [], ds, _, e => by
    cases e
    exact ⟨[], .nil, fun R h => h⟩
  | .c e :: r, ds, hs, h => by
    rw [List.all_cons, Bool.and_eq_true] at hs
    simp only [itD, Option.map_eq_some_iff] at h
    obtain ⟨ds', h, rfl⟩ := h
    obtain ⟨ws, rw', k⟩ := itT_ok hi hd e1 rl hs.2 h
    have he : RepL Γ S [toV e] [e] := repL_scal (ds := [e]) (by rw [List.all_cons, List.all_nil, Bool.and_true]; exact hs.1)
    cases he with
    | cons re _ => exact ⟨toV e :: ws, .cons re rw', fun R hR => k _ hR⟩
  | .f x :: r, ds, hs, h => by
    rw [List.all_cons, Bool.and_eq_true] at hs
    simp only [itD, Option.bind_eq_some_iff, Option.map_eq_some_iff] at h
    obtain ⟨d0, h0, ds', h, rfl⟩ := h
    obtain ⟨ws, rw', k⟩ := itT_ok hi hd e1 rl hs.2 h
    obtain ⟨v, hv, rv⟩ := lookup_rep e1 rl h0
    exact ⟨v :: ws, .cons rv rw', fun R hR => ⟨.ref a, hi, rfl, rfl, d, vs, v, rfl, hd, hv, k _ hR⟩⟩
theorem ss_tryF (hpi : P i = false) (hpj : P j = false) (hij : i ≠ j) (eP : PySem.W.exmOne Γ.K (.ref (Γ.cls c)) (.ref (Γ.cls c)) = some true) (hs : its.all isScI = true) (hb : ∀ W', Ss Γ P W' (tb W') g) :
    Ss Γ P W (fun D σ H => tb (wAs Γ.K (.ref (Γ.cls c)) i (fun a cls d => tAsg (tLst (itT a cls d (Γ.cls c) i its)) (gName j)) W D) D σ H) (sTryF g c i j its) := fun f σ ρ T H D s k => by
  refine hb _ f σ ρ T H D s ?_
  unfold sTryF at k
  cases eg : g ρ with
  | nx ρ' => rw [eg] at k; exact k
  | brk ρ' => rw [eg] at k; exact k
  | ct ρ' => rw [eg] at k; exact k
  | ret o ρ' => rw [eg] at k; exact k
  | stuck => rw [eg] at k; exact k
  | exc x ρ' =>
    rw [eg] at k
    obtain ⟨xc, xfs⟩ := x
    cases xc with
    | ty n => cases xfs <;> exact k.elim
    | own n =>
      cases xfs with
      | none => exact k.elim
      | some fs =>
        simp only at k
        split at k
        · rename_i hc
          obtain ⟨hn, hil, hjl, hlen⟩ := hc
          subst hn
          split at k
          · rename_i ds ed
            rintro σ1 cls d H1 ⟨ec, dd, e2, sr⟩
            subst ec
            subst e2
            refine ⟨true, eP, fun _ a ha => ?_, fun z => by cases z⟩
            obtain ⟨S, sb, rd, ad, ads⟩ := sr.rs.readS
            obtain ⟨F, q⟩ := rd (.ref dd, .sh (.xd fs)) (by simp)
            cases q with
            | sh q => cases q with
              | @xd _ vs _ hS e1 rl =>
                have il : i < σ1.length := by rw [sr.lenS]; exact hil
                have hi : (σ1.set i (some (V.ref a)))[i]? = some (some (.ref a)) := List.getElem?_set_self il
                obtain ⟨ws, rw', kk⟩ := itT_ok (c := n) hi (sb _ _ hS).1 e1 rl hs ed
                refine kk _ ⟨?_, fun p hp => ?_⟩
                · rw [rw'.len, sizeLine_eq]
                  have : ∀ {its : List It} {ds : List Den.D}, itD fs its = some ds → ds.length = its.length := by
                    intro its
                    induction its with
                    | nil => intro ds h; cases h; rfl
                    | cons t r ih =>
                      intro ds h
                      cases t with
                      | c e =>
                        simp only [itD, Option.map_eq_some_iff] at h
                        obtain ⟨ds', h, rfl⟩ := h
                        simp [ih h]
                      | f x =>
                        simp only [itD, Option.bind_eq_some_iff, Option.map_eq_some_iff] at h
                        obtain ⟨d0, h0, ds', h, rfl⟩ := h
                        simp [ih h]
                  have := this ed
                  omega
                · -- the list is made, put into its slot; the error's slot is wiped
                  have r1 := ads ws ds rw'
                  have r2 := (show RS Γ f.c (ws.zip (ds.map O.sh) ++ (slotsR σ1 ρ' ++ ((.ref dd, .sh (.xd fs)) :: T))) H1 from r1).newL hp
                  rw [zip_fst rw'.len, zip_snd rw'.len] at r2
                  have s3 : SR Γ P f σ1 ρ' ((.ref p, .lst (ds.map O.sh)) :: T) (upd H1 p (.lst ws)) := ⟨sr.ok, sr.fix, by
                    have z := r2.perm ((List.Perm.cons _ List.perm_middle).trans (List.Perm.swap _ _ _))
                    exact z.drop.perm List.perm_middle.symm⟩
                  have s4 := s3.wipe hpi (some (.ref a))
                  have s5 := s4.set (i := j) (by rw [List.length_set, sr.lenS]; exact hjl) hpj
                  have s6 := s5.wipe hpi none
                  have e6 : ((ρ'.set i none).set j (some (O.lst (ds.map O.sh)))).set i none = (ρ'.set i none).set j (some (O.lst (ds.map O.sh))) := by
                    rw [List.set_comm _ _ hij, List.set_set, List.set_comm _ _ (Ne.symm hij)]
                  rw [e6] at s6
                  exact k _ _ s6
          · exact k.elim
        · exact k.elim
end
end Den
end
section
/-! Den, part AG: {key: value for .. in ..} whose keys are tuples. -/
namespace Den
open PySem L2 PySem.Spec PyProof.Rows
section
variable {X : Cx} {pins : List (Addr × Obj)} {σ : L2.St} {H : Hp} {s : Shared} {E : Value → Shared → Prop} {D b : Addr} {kvs : List (List Key × V)} {k : List Key} {v : V} {r : Value} {Q : Unit → Shared → Prop}
/-- one entry more, or a new value -/
theorem dct_set (hu : X.A.units + 1 < cLine) (I : Inv X pins σ H s) (hD : H D = some (.dT kvs)) (hb : H b = some (.tup (k.map kV))) (hz : kvs.length < sizeLine) (rv : RelV v r)
    (go : ∀ s', Inv X pins σ (upd H D (.dT (putK kvs k v))) s' → Q () s') : wpAny (model X.prog X.w) X.A (dictSet D (.ref b) r) Q E s := by
  obtain ⟨lz, nosys, xs, rel, ex⟩ := dt_of I.hok hD
  have room : xs.length ≤ sizeLine := Paired.length rel ▸ lz
  have room2 : (putK kvs k v).length ≤ sizeLine := Nat.le_trans (length_putK kvs k v) hz
  refine wpAny_dictSet_heap (hsz := room) (show (tupleKind (mixKind X.prog X.w)).room X.A from by first | exact (show X.A.units < cLine by omega) | exact tupleKind_room hu | exact ⟨by omega, trivial⟩) (key_of I.hok hb) ex fun h2 ex2 same => go _ ?_
  obtain ⟨o, es, ep, ho, t2, t3, t4, _, t5⟩ := ex2
  refine d_write I (by rw [hD]; exact True.intro) same ⟨o, ho⟩ ⟨room2, nosys, _, (rel.put k hb rv).keeps fun c ys ec => ?_, o, es, ep, ho, t2, t3, t4, t5⟩
  rw [upd_ne (ne_of ec hD (fun z => nomatch z))]
  exact ec
end
/-- the reading: each turn puts an entry into the dict at D -/
def tDcT (wi : TI) (g : TG) (tt : TT) (tk tv : TE) (vs : List Nat) : TE := fun σ H Q => wi σ H fun J H1 => ∀ D, H1 D = none → ∃ I : Nat → Nat → Hp → Prop, (∃ m, I 0 m (upd H1 D (.dT []))) ∧ ∀ i m H, I i m H →
  (J.stop i H ∧ Q (.ref D) H) ∨ (J.go i H ∧ ∃ N : Hp → Prop, (∀ H', N H' → ∃ m', m' < m ∧ I (i + 1) m' H') ∧ ∀ x H', J.yld i H x H' → g x (wipe σ vs) H' fun σ2 H2 => wipe σ2 vs = wipe σ vs ∧ tt σ2 H2 fun c H3 =>
    if c = true then tk σ2 H3 fun y H4 => tv σ2 H4 fun z H5 => ∃ kvs k b, y = .ref b ∧ H5 b = some (.tup (k.map kV)) ∧ H5 D = some (.dT kvs) ∧ kvs.length < sizeLine ∧ N (upd H5 D (.dT (putK kvs k z))) else N H3)
section
variable {X : Cx}
theorem pe_dcT {ke ve tg iter : Expr} {ifs : List Expr} {scope : Scope} {own : List (Str × Nat)} {pos : Pos} {wi : TI} {g : TG} {tt : TT} {tk tv : TE} (calm : X.calm = true) (hu : X.A.units + 1 < cLine) (nd : X.N.Nodup) (hi : PI X tg iter wi) (ok : BlkOk X.N X.env.scope scope own)
    (hg : ∀ (s : Shared) (H : Hp) (C : Addr) (cl : List (Str × Addr)) (fp : List Addr), PG (X.blk s H scope (compEnvC scope cl C X.env) fp) tg g)
    (ht : ∀ (s : Shared) (H : Hp) (C : Addr) (cl : List (Str × Addr)) (fp : List Addr), PTs (X.blk s H scope (compEnvC scope cl C X.env) fp) ifs tt)
    (hk : ∀ (s : Shared) (H : Hp) (C : Addr) (cl : List (Str × Addr)) (fp : List Addr), PE (X.blk s H scope (compEnvC scope cl C X.env) fp) ke tk)
    (hv : ∀ (s : Shared) (H : Hp) (C : Addr) (cl : List (Str × Addr)) (fp : List Addr), PE (X.blk s H scope (compEnvC scope cl C X.env) fp) ve tv)
    (plain : ∀ x, foldedSetIterable iter X.env x = pure x := by intro _; rfl) : PE X (.DictComp ke ve [⟨tg, iter, ifs, 0⟩] scope pos) (tDcT wi g tt tk tv (own.map (·.2))) := by
  refine ⟨fun pins s σ H Q inv h => ?_⟩
  rw [arm_eval_DictComp]
  have cells : ∀ y ∈ scope.names, y.2 = .free → ∃ c, X.env.cells.lookup y.1 = some c := by
    intro y my e
    exact (ok.free y my e).elim (fun z => inv.ok.has _ (.inl z)) fun z => inv.ok.has _ (.inr z)
  refine wpAny_comprehension_free rfl plain (closure_ok cells) ok.kind (fun y my e => by rw [ok.uniq y my, e]) (thn (hi.run pins s σ H _ inv h) fun xv sA hA => thn hA fun itv sB hB => ?_)
  obtain ⟨it, fp, tn, J, HB, rfl, invB, T, stB, fpB, q⟩ := hB
  refine wpAny_newObj_type (newEnv_comp ?_)
  -- the dict's address, and the state with it
  obtain ⟨D, eD⟩ : ∃ D, sB.heap.objs.size = D := ⟨_, rfl⟩
  rw [eD]
  have freeD : HB D = none := invB.hok.fresh (Nat.le_of_eq eD)
  obtain ⟨W, ⟨m0, start⟩, turn⟩ := q D freeD
  obtain ⟨sC, eC⟩ : ∃ sC : Shared, ({ sB with heap := sB.heap.push { cls := .type "dict", data := .dict #[] } } : Shared) = sC := ⟨_, rfl⟩
  have heapC : sC.heap = sB.heap.push { cls := .type "dict", data := .dict #[] } := by rw [← eC]
  have invC : Inv X pins σ (upd HB D (.dT [])) sC := by
    rw [← eC]
    refine invB.laid (t' := sB.toks) (fun b o z => Heap.get?_push_of_some _ z) (Nat.le_of_eq eD) ?_
    rw [← eD]
    exact dt_empty sB.heap invB.big
  have small : ∀ b ∈ fp, b < sB.heap.objs.size := by
    intro b mb
    obtain ⟨o, z, _⟩ := T.obj _ _ stB b mb
    exact Heap.lt_size z
  have fpC : ∀ b ∈ fp, FpOk X pins (upd HB D (.dT [])) b ∧ b < sC.heap.objs.size := by
    intro b mb
    have lt := small b mb
    refine ⟨⟨?_, (fpB b mb).2⟩, by rw [heapC, Heap.size_push]; exact Nat.lt_succ_of_lt lt⟩
    rw [upd_ne (by rw [← eD]; exact Nat.ne_of_lt lt)]
    exact (fpB b mb).1
  have stC : tn 0 sC.heap := T.keep _ _ _ stB fun b _ o z => by rw [heapC]; exact Heap.get?_push_of_some _ z
  have invS := block_start invC ok nd fpC
  rw [eC]
  have none_fp : ∀ b ∈ fp, (upd HB D (.dT [])) b = none := fun b mb => (fpC b mb).1.1
  -- the block's context
  have pg := hg sC (upd HB D (.dT [])) sC.heap.objs.size (cellsFrom (sC.heap.objs.size + 1) scope.names (cloFrom X.env.cells scope.names [])) fp
  have pt := ht sC (upd HB D (.dT [])) sC.heap.objs.size (cellsFrom (sC.heap.objs.size + 1) scope.names (cloFrom X.env.cells scope.names [])) fp
  have pk := hk sC (upd HB D (.dT [])) sC.heap.objs.size (cellsFrom (sC.heap.objs.size + 1) scope.names (cloFrom X.env.cells scope.names [])) fp
  have pv := hv sC (upd HB D (.dT [])) sC.heap.objs.size (cellsFrom (sC.heap.objs.size + 1) scope.names (cloFrom X.env.cells scope.names [])) fp
  obtain ⟨ce, hce⟩ : ∃ ce, compEnvC scope (cellsFrom (sC.heap.objs.size + 1) scope.names (cloFrom X.env.cells scope.names [])) sC.heap.objs.size X.env = ce := ⟨_, rfl⟩
  have locals : ce.locals = sC.heap.objs.size := by rw [← hce]; rfl
  obtain ⟨H0, eH0⟩ : ∃ H0, upd HB D (.dT []) = H0 := ⟨_, rfl⟩
  rw [hce, eH0] at invS pg pt pk pv
  rw [eH0] at start none_fp fpC invC
  obtain ⟨sS, eS⟩ : ∃ sS : Shared, ({ sC with heap := pushCells (sC.heap.push { cls := .type "dict", data := .dict #[] }) scope.names } : Shared) = sS := ⟨_, rfl⟩
  rw [eS] at invS
  have stS : tn 0 sS.heap := T.keep _ _ _ stC fun b _ o z => by rw [← eS]; exact pushCells_keeps _ _ _ _ (Heap.get?_push_of_some _ z)
  have fixed : ∀ {σ' : L2.St} {H' : Hp} {s' : Shared}, Inv (X.blk sC H0 scope ce fp) [] σ' H' s' → (∀ b ∈ fp, H' b = none) → ∀ b ∈ fp, FpOk (X.blk sC H0 scope ce fp) [] H' b := fun {σ' H' s'} I' nn b mb =>
    ⟨nn b mb, (I'.ok.exf b mb).1, I'.ok.exfs b mb, .inl mb, fun x c z => (I'.ok.exf b mb).2 x c z, fun p mp => absurd (show p ∈ ([] : List (Addr × Obj)) ++ [] from mp) (by simp)⟩
  have loop : codeAny (model X.prog X.w) X.A (.compLoop (.DictComp ke ve [⟨tg, iter, ifs, 0⟩] scope pos) 0 (.ref it) (.ref D) ce) (compPost (model X.prog X.w) X.A X.xe none (EP X pins σ Q) (.ref D) sC.heap.objs.size) sS := by
    refine compLoop_anyD (fun n s' => ∃ i H', Inv (X.blk sC H0 scope ce fp) [] (wipe σ (own.map (·.2))) H' s' ∧ tn i s'.heap ∧ (∀ b ∈ fp, H' b = none) ∧ W i n H') ?_ m0 ⟨0, H0, invS, stS, none_fp, start⟩
    rintro n s1 ⟨i, H1, inv1, st1, nn1, w1⟩
    rcases turn i n H1 w1 with ⟨stop, last⟩ | ⟨more, N, next, step⟩
    · refine thnF (T.done (X.blk sC H0 scope ce fp) rfl rfl rfl calm i [] s1 _ H1 (fun _ _ => False) inv1 (fixed inv1 nn1) st1 stop) fun r s2 ⟨er, inv2⟩ => ?_
      rw [er]
      have inv3 : Inv X pins σ H1 s2 := invC.call' (ch := fp) inv2.os inv2.base inv2.hok inv2.bare fun b mb => ⟨(fpC b mb).1.2.2.2.1, (fpC b mb).1.2.1, (fpC b mb).1.2.2.2.2.1, (fpC b mb).1.2.2.2.2.2⟩
      have freeC : H1 sC.heap.objs.size = none := locals ▸ (show H1 ce.locals = none from inv2.free)
      obtain ⟨m, hns, _⟩ := inv2.loc
      have hns' : s2.heap.Ns sC.heap.objs.size m := locals ▸ (show s2.heap.Ns ce.locals m from hns)
      refine ⟨m, hns', fun h'' same => ?_⟩
      obtain ⟨f0, f1, f2, f3, f4, f5⟩ := invC.fpOk (Nat.le_refl _) freeC
      exact ⟨.ref D, H1, inv3.turned (t' := s2.toks) (fun b o hb z => (same.2 b hb).trans z) f0 f1 f3 f4 f5, rfl, last⟩
    · refine thnF (T.item (X.blk sC H0 scope ce fp) rfl rfl rfl calm i [] s1 _ H1 (fun _ _ => False) inv1 (fixed inv1 nn1) st1 more) fun r s2 ⟨u, er, after⟩ => ?_
      rw [er]
      refine thnF after fun _ s3 ⟨x, H3, inv3, rx, yld, st3, nn3⟩ => ?_
      refine thnF (pg.run _ s3 _ H3 x u _ (inv3.pinned (fixed inv3 nn3) (T.obj _ _ st3)) rx (step x H3 yld)) fun _ s4 ⟨σ4, H4, inv4, ew, q4⟩ => ?_
      refine thnF (pt.run _ s4 σ4 H4 _ inv4 q4) fun c s5 ⟨H5, inv5, q5⟩ => ?_
      have fin : ∀ {s' : Shared} {H' : Hp}, Inv (X.blk sC H0 scope ce fp) ([] ++ pinsAt fp s3.heap) σ4 H' s' → N H' → ∃ m, m < n ∧ ∃ i H', Inv (X.blk sC H0 scope ce fp) [] (wipe σ (own.map (·.2))) H' s' ∧ tn i s'.heap ∧ (∀ b ∈ fp, H' b = none) ∧ W i m H' := fun {s' H'} I' nx => by
        obtain ⟨m', lt, w'⟩ := next H' nx
        have pin : ∀ b ∈ fp, ∀ o, s3.heap.get? b = some o → s'.heap.get? b = some o ∧ H' b = none := fun b mb o z =>
          have y := I'.pin (b, o) (List.mem_append_right _ (List.mem_append_right _ (mem_pinsAt mb z)))
          ⟨y.1, y.2.1⟩
        refine ⟨m', lt, i + 1, H', (I'.unpinned (pins := [])).weak (by rw [← ew, wipe_length]) (fun j v z => ?_), T.keep _ _ _ st3 fun b mb o z => (pin b mb o z).1, fun b mb => ?_, w'⟩
        · exact (wipe_some (ew ▸ z)).1
        · obtain ⟨o, z, _⟩ := T.obj _ _ st3 b mb
          exact (pin b mb o z).2
      cases c with
      | false =>
        simp only [Bool.false_eq_true, if_false] at q5 ⊢
        exact fin inv5 q5
      | true =>
        simp only [if_true] at q5 ⊢
        refine thnF (pk.run _ s5 σ4 H5 _ inv5 q5) fun _ s6 ⟨yk, H6, inv6, rk, q6⟩ => ?_
        refine thnF (pv.run _ s6 σ4 H6 _ inv6 q6) fun _ s7 ⟨yv, H7, inv7, rv, kvs, k, b, ek, hb, hD, few, nx⟩ => ?_
        subst ek
        cases rk
        exact dct_set (X := X.blk sC H0 scope ce fp) hu inv7 hD hb few rv fun s8 inv8 => fin inv8 nx
  have z := codeAny_compStart_dict loop (T.self X.A 0 _ _ _ stS loop)
  rw [← eS, ← hce] at z
  rw [← eC] at z ⊢
  exact z
end
end Den
end
section
/-! Den, part AH: dict comprehensions with tuple keys; {} for tuple keys; d.get(k). -/
namespace Den
open PySem L2 PySem.Spec PyProof.Rows
def dcL (vs : List Nat) (tg : aG) (tt : aT) (gk gv : aE) : List D → List (D × O) → Store → Res (List (D × O))
  | [], acc, ρ => .ok acc ρ
  | d :: ds, acc, ρ => match tg d ρ with
    | some ρ1 => (tt ρ1).bind fun b ρ2 => if b = true then (gk ρ2).bind fun ko ρ3 => (gv ρ3).bind fun o ρ4 => match ko with
        | .sh kd => match keyT kd with
          | some k => if acc.length < 16000000 then dcL vs tg tt gk gv ds (putT acc k (.sh (fz o))) (wipeS ρ4 vs) else .stuck
          | none => .stuck
        | _ => .stuck
      else dcL vs tg tt gk gv ds acc (wipeS ρ2 vs)
    | none => .stuck
def aDcT (src : aI) (vs : List Nat) (tg : aG) (tt : aT) (gk gv : aE) : aE := fun ρ => (src ρ).bind fun ds ρ1 => match dcL vs tg tt gk gv ds [] (wipeS ρ1 vs) with
    | .ok r ρ2 => .ok (.dit r) (restS ρ1 vs ρ2)
    | _ => .stuck
section
variable {Γ : Gb} {P : Nat → Bool} {W : WX} {vs : List Nat}
theorem SR.putT {f : Fr} {σ : L2.St} {ρ : Store} {T : List (V × O)} {H : Hp} {y : V} {d : D} {D1 : Addr} {acc : List (D × O)} {k : List Key} (s : SR Γ P f σ ρ ((y, .sh d) :: (.ref D1, .dit acc) :: T) H) :
    ∃ ks, H D1 = some (.dT ks) ∧ ks.length = acc.length ∧ SR Γ P f σ ρ ((.ref D1, .dit (Den.putT acc k (.sh d))) :: T) (upd H D1 (.dT (putK ks k y))) := by
  have r1 : RS Γ f.c ((.ref D1, .dit acc) :: ((y, .sh d) :: (T ++ slotsR σ ρ))) H := (s.permT (List.Perm.swap _ _ _)).rs.perm List.perm_append_comm
  obtain ⟨a, ks, e, ha, el, q⟩ := r1.putT (k := k) (y := y) (d := d) (by simp)
  cases e
  refine ⟨ks, ha, el, s.ok, s.fix, ?_⟩
  have z := (q.perm (List.Perm.swap _ _ _)).drop
  exact z.perm (List.perm_append_comm (l₁ := (V.ref D1, O.dit (Den.putT acc k (.sh d))) :: T))
theorem sx_dcT {wi : TI} {g : TG} {tt : TT} {tk tv : TE} {src : aI} {tg : aG} {at_ : aT} {gk gv : aE} (hi : Sxi Γ P W wi src) (hg : Sg Γ (offP P vs) vs g tg) (ht : Sxt Γ (offP P vs) W0 tt at_) (hk : Sx Γ (offP P vs) W0 tk gk) (hv : Sx Γ (offP P vs) W0 tv gv) :
    Sx Γ P W (tDcT wi g tt tk tv vs) (aDcT src vs tg at_ gk gv) := fun f σ ρ T H Q s k => by
  refine hi f σ ρ T H _ s ((Good.bind k).imp fun ds ρ1 k J Rj H1 it s1 D1 hD => ?_)
  split at k
  · rename_i r ρ2 er
    obtain ⟨X, sx, rest⟩ := s1.outs vs
    have b0 := sx.block (vs := vs) fun i m o => wipeS_get m o
    have b1 : SR Γ (offP P vs) f (wipe σ vs) (wipeS ρ1 vs) ((.ref D1, .dit []) :: (X ++ (Rj ++ T))) (upd H1 D1 (.dT [])) :=
      b0.mapT fun R q => RS.newDT (rs := []) (kvs := []) (dkvs := []) q hD rfl rfl rfl
    refine ⟨fun i m H' => m = ds.length - i ∧ i ≤ ds.length ∧ ∃ ρ' acc, dcL vs tg at_ gk gv (ds.drop i) acc ρ' = .ok r ρ2 ∧ (∀ i ∈ vs, ∀ o, ρ'[i]? ≠ some (some o)) ∧
      SR Γ (offP P vs) f (wipe σ vs) ρ' ((.ref D1, .dit acc) :: (X ++ (Rj ++ T))) H', ⟨ds.length, by simp, Nat.zero_le _, wipeS ρ1 vs, [], by rw [List.drop_zero]; exact er, fun i m o => wipeS_get m o, b1⟩, ?_⟩
    rintro i m H' ⟨rfl, hle, ρ', acc, el, hw, s'⟩
    have toJ : ∀ {ρ'' : Store} {σ'' : L2.St} {H'' : Hp} {T1 : List (V × O)}, SR Γ (offP P vs) f σ'' ρ'' (T1 ++ (X ++ (Rj ++ T))) H'' → RS Γ f.c (Rj ++ (slotsR σ'' ρ'' ++ (T1 ++ (X ++ T)))) H'' := fun q => q.rs.perm (permJ _ _ _ _ _)
    by_cases hi' : i < ds.length
    · obtain ⟨d, hd⟩ := get_of_lt hi'
      have hdrop : ds.drop i = d :: ds.drop (i + 1) := by
        rw [List.drop_eq_getElem_cons hi']
        rw [List.getElem?_eq_getElem hi'] at hd
        cases hd
        rfl
      rw [hdrop] at el
      unfold dcL at el
      split at el
      · rename_i ρa ea
        obtain ⟨b, ρb, eb, el⟩ := res_bind_ok el
        refine .inr ⟨it.go f.c _ i H' (toJ (T1 := [(V.ref D1, O.dit acc)]) s') hi', fun H'' => ∃ ρ'' acc', dcL vs tg at_ gk gv (ds.drop (i + 1)) acc' ρ'' = .ok r ρ2 ∧ (∀ i ∈ vs, ∀ o, ρ''[i]? ≠ some (some o)) ∧
          SR Γ (offP P vs) f (wipe σ vs) ρ'' ((.ref D1, .dit acc') :: (X ++ (Rj ++ T))) H'', fun H'' ⟨ρ'', acc', q1, q2, q3⟩ => ⟨ds.length - (i + 1), by omega, rfl, hi', ρ'', acc', q1, q2, q3⟩, fun x H'' y => ?_⟩
        have sy : SR Γ (offP P vs) f (wipe σ vs) ρ' ((x, .sh d) :: (.ref D1, .dit acc) :: (X ++ (Rj ++ T))) H'' :=
          ⟨s'.ok, s'.fix, (it.yld f.c _ i d x H' H'' (toJ (T1 := [(V.ref D1, O.dit acc)]) s') hd y).perm (permY _ _ _ _ _ _)⟩
        refine hg f _ ρ' _ H'' x d ρa _ sy ea fun σ2 H2 w2 s2 => ⟨w2.trans wipe_wipe, ht f σ2 ρa _ H2 _ s2 ?_⟩
        rw [eb]
        intro H3 s3
        cases b with
        | true =>
          refine iteT ?_
          rw [if_pos rfl] at el
          obtain ⟨ko, ρc, ec, el2⟩ := res_bind_ok el
          clear el
          obtain ⟨o, ρd, ed, el3⟩ := res_bind_ok el2
          clear el2
          refine hk f σ2 ρb _ H3 _ s3 ?_
          rw [ec]
          intro y H4 s4
          refine hv f σ2 ρc _ H4 _ s4 ?_
          rw [ed]
          intro z H5 s5
          split at el3
          · rename_i kd
            split at el3
            · rename_i key hkey
              split at el3
              · rename_i few
                obtain ⟨bb, rfl, hb⟩ : ∃ bb, y = .ref bb ∧ H5 bb = some (.tup (key.map kV)) := by
                  obtain ⟨S, sb, rr⟩ := s5.rs.sh (v := y) (d := kd) (by simp)
                  rw [keyT_tD hkey] at rr
                  obtain ⟨bb, e1, e2⟩ := rep_keyT rr
                  exact ⟨bb, e1, (sb _ _ e2).1⟩
                have s6 : SR Γ (offP P vs) f σ2 ρd ((z, .sh (fz o)) :: (.ref D1, .dit acc) :: (X ++ (Rj ++ T))) H5 := (s5.fz.permT (List.Perm.swap _ _ _)).drop
                obtain ⟨ks, hks, hlen, s7⟩ := s6.putT (k := key)
                exact ⟨ks, key, bb, rfl, hb, hks, lt_line (by omega), wipeS ρd vs, _, el3, fun i m o => wipeS_get m o, s7.again (w2.trans wipe_wipe)⟩
              · cases el3
            · cases el3
          · cases el3
        | false =>
          refine iteF ?_
          rw [if_neg (by simp)] at el
          exact ⟨wipeS ρb vs, acc, el, fun i m o => wipeS_get m o, s3.again (w2.trans wipe_wipe)⟩
      · cases el
    · have hil : i = ds.length := by omega
      subst hil
      rw [List.drop_length] at el
      cases el
      refine .inl ⟨it.stop f.c _ H' (toJ (T1 := [(V.ref D1, O.dit _)]) s'), k _ _ ?_⟩
      have u := (s'.unblock hw s.fix).permT (T' := X ++ ((V.ref D1, O.dit _) :: (Rj ++ T))) List.perm_middle.symm
      have v := (rest _ _ _ u).permT (T' := Rj ++ ((V.ref D1, O.dit _) :: T)) List.perm_middle.symm
      exact v.dropL
  · exact k.elim
end
section
variable {X : Cx} {Γ : Gb} {P : Nat → Bool} {W : WX} {ke ve tg iter : Expr} {ifs : List Expr} {scope : Scope} {pos : Pos} {wi : TI} {g : TG} {tt : TT} {tk tv : TE} {src : aI} {a : aG} {p : aT} {gk gv : aE} {kk : Nat}
theorem ae_dcT (own : List (Str × Nat)) (hr : Room kk X.A) (hN : X.N.Nodup) (hi : AI X Γ P W tg iter wi src) (hg : ∀ (s : Shared) (H : Hp) (C : Addr) (cl : List (Str × Addr)) (fp : List Addr), AG (X.blk s H scope (compEnvC scope cl C X.env) fp) Γ (offP P (own.map (·.2))) (own.map (·.2)) tg g a)
    (ht : ∀ (s : Shared) (H : Hp) (C : Addr) (cl : List (Str × Addr)) (fp : List Addr), APt (X.blk s H scope (compEnvC scope cl C X.env) fp) Γ (offP P (own.map (·.2))) W0 ifs tt p)
    (hk : ∀ (s : Shared) (H : Hp) (C : Addr) (cl : List (Str × Addr)) (fp : List Addr), AE (X.blk s H scope (compEnvC scope cl C X.env) fp) Γ (offP P (own.map (·.2))) W0 ke tk gk)
    (he : ∀ (s : Shared) (H : Hp) (C : Addr) (cl : List (Str × Addr)) (fp : List Addr), AE (X.blk s H scope (compEnvC scope cl C X.env) fp) Γ (offP P (own.map (·.2))) W0 ve tv gv) (ok : blkC X.N X.env.scope scope own = true := by first | rfl | kernel_rfl) (hc : X.calm = true := by rfl)
    (hs : ∀ x, foldedSetIterable iter X.env x = pure x := by intro _; rfl) : AE X Γ P W (.DictComp ke ve [⟨tg, iter, ifs, 0⟩] scope pos) (tDcT wi g tt tk tv (own.map (·.2))) (aDcT src (own.map (·.2)) a p gk gv) :=
  ⟨pe_dcT hc (by have := hr.un; omega) hN hi.pi (blkOk_by ok) (fun s H C cl fp => (hg s H C cl fp).pg) (fun s H C cl fp => (ht s H C cl fp).pts) (fun s H C cl fp => (hk s H C cl fp).pe) (fun s H C cl fp => (he s H C cl fp).pe) hs,
    sx_dcT hi.sx (hg X.s_0 X.H_0 0 [] []).sg (ht X.s_0 X.H_0 0 [] []).sx (hk X.s_0 X.H_0 0 [] []).sx (he X.s_0 X.H_0 0 [] []).sx⟩
/-! {} for tuple keys -/
def aNewT : aE := fun ρ => .ok (.dit []) ρ
theorem ae_newT : AE X Γ P W (.Dict [] [] pos) tDNewT aNewT := ⟨pe_dnewT, fun f σ ρ T H Q s k p hp => k _ _ (s.mapT fun R q => RS.newDT (rs := []) (kvs := []) (dkvs := []) q hp rfl rfl rfl)⟩
end
/-! ### d.get(k), of shared dicts -/
def gGet1 : O → O → Option O
  | .sh (.dit kvs), .sh k => match keyT k with
    | some k => match valT kvs k with
      | some d => some (.sh d)
      | none => some (.sh .non)
    | none => none
  | .sh (.dic kvs), .sh k => match keyD k with
    | some k => match valD kvs k with
      | some d => some (.sh d)
      | none => some (.sh .non)
    | none => none
  | _, _ => none
def isDicO : O → Bool
  | .sh (.dit _) => true
  | .sh (.dic _) => true
  | _ => false
def aGet1 (g gk : aE) : aE := fun ρ => (g ρ).bind fun o ρ1 => if isDicO o = true then (gk ρ1).bind fun k ρ2 => match gGet1 o k with
    | some w => .ok w ρ2
    | none => .stuck
  else .stuck
section
variable {Γ : Gb} {P : Nat → Bool} {W : WX} {td ty : TE} {g gk : aE}
theorem sx_get1 (h1 : Sx Γ P W td g) (h2 : Sx Γ P W ty gk) : Sx Γ P W (tDGet1 td ty) (aGet1 g gk) := fun f σ ρ T H Q s k => by
  refine h1 f σ ρ T H _ s ((Good.bind k).imp fun o ρ1 k1 v H1 s1 => ?_)
  clear k
  split at k1
  · rename_i hd
    have isd : ∃ a, v = .ref a ∧ IsD H1 a := by
      obtain ⟨S, sb, rd, _⟩ := s1.rs.readS
      obtain ⟨F, q⟩ := rd (v, o) (by simp)
      unfold isDicO at hd
      split at hd
      · cases q with
        | sh q => cases q with
          | dit ha _ _ => exact ⟨_, rfl, .inr ⟨_, .inl (sb _ _ ha).1⟩⟩
      · cases q with
        | sh q => cases q with
          | dic ha _ _ => exact ⟨_, rfl, .inl ⟨_, .inl (sb _ _ ha).1⟩⟩
      · cases hd
    obtain ⟨a, rfl, hisd⟩ := isd
    refine ⟨a, rfl, hisd, h2 f σ ρ1 _ H1 _ s1 (((Good.bind k1).more (T' := [(.ref a, o)])).imp fun ko ρ2 k2 y H2 s2 => ?_)⟩
    clear k1
    split at k2
    · rename_i w ew
      obtain ⟨S, sb, rd, ad, ads⟩ := s2.rs.readS
      obtain ⟨F, q⟩ := rd (.ref a, o) (by simp)
      obtain ⟨F2, q2⟩ := rd (y, ko) (by simp)
      unfold gGet1 at ew
      split at ew
      · rename_i kvs kd
        split at ew
        · rename_i key hkey
          cases q with
          | sh q => cases q with
            | dit ha e1 rl => cases q2 with
              | sh q2 =>
                rw [keyT_tD hkey] at q2
                obtain ⟨bb, rfl, hb⟩ := rep_keyT q2
                have z := valT_rep e1 rl key
                refine ⟨_, .t (sb _ _ ha).1 (sb _ _ hb).1, ?_⟩
                split at ew
                · cases ew
                  rename_i d hd'
                  rw [hd'] at z
                  obtain ⟨u, hu, ru⟩ := z
                  rw [hu]
                  refine k2 _ H2 ⟨s2.ok, s2.fix, ?_⟩
                  have r := (ad _ _ ru).perm (List.perm_middle (l₁ := slotsR σ ρ2)).symm
                  exact (r.perm (show (slotsR σ ρ2 ++ ((u, .sh d) :: ((V.ref bb, O.sh kd) :: ([(V.ref a, O.sh (.dit kvs))] ++ T)))).Perm (([(V.ref bb, O.sh kd), (V.ref a, O.sh (.dit kvs))] : List (V × O)) ++ (slotsR σ ρ2 ++ ((u, .sh d) :: T))) from by
                    classical
                    refine List.perm_iff_count.mpr fun a => ?_
                    simp only [List.count_append, List.count_cons, List.count_nil]
                    omega)).dropL
                · cases ew
                  rename_i hd'
                  rw [hd'] at z
                  have z' : valV _ key = none := z
                  rw [z']
                  exact k2 _ H2 (((s2.pure (v := .non) (d := .non) fun _ => .non).permT (T' := [(V.ref bb, O.sh kd), (V.ref a, O.sh (.dit kvs))] ++ ((.non, .sh .non) :: T)) (by
                    exact (List.perm_middle (l₁ := [(V.ref bb, O.sh kd), (V.ref a, O.sh (.dit kvs))])).symm)).dropL)
        · cases ew
      · rename_i kvs kd
        split at ew
        · rename_i key hkey
          cases q with
          | sh q => cases q with
            | dic ha e1 rl => cases q2 with
              | sh q2 =>
                rw [keyD_kD hkey] at q2
                have ey := rep_key q2
                subst ey
                have z := valD_rep e1 rl key
                refine ⟨_, .k (sb _ _ ha).1, ?_⟩
                split at ew
                · cases ew
                  rename_i d hd'
                  rw [hd'] at z
                  obtain ⟨u, hu, ru⟩ := z
                  rw [hu]
                  refine k2 _ H2 ⟨s2.ok, s2.fix, ?_⟩
                  have r := (ad _ _ ru).perm (List.perm_middle (l₁ := slotsR σ ρ2)).symm
                  exact (r.perm (show (slotsR σ ρ2 ++ ((u, .sh d) :: ((kV key, O.sh kd) :: ([(V.ref a, O.sh (.dic kvs))] ++ T)))).Perm (([(kV key, O.sh kd), (V.ref a, O.sh (.dic kvs))] : List (V × O)) ++ (slotsR σ ρ2 ++ ((u, .sh d) :: T))) from by
                    classical
                    refine List.perm_iff_count.mpr fun a => ?_
                    simp only [List.count_append, List.count_cons, List.count_nil]
                    omega)).dropL
                · cases ew
                  rename_i hd'
                  rw [hd'] at z
                  have z' : valV _ key = none := z
                  rw [z']
                  exact k2 _ H2 (((s2.pure (v := .non) (d := .non) fun _ => .non).permT (T' := [(kV key, O.sh kd), (V.ref a, O.sh (.dic kvs))] ++ ((.non, .sh .non) :: T)) (by
                    exact (List.perm_middle (l₁ := [(kV key, O.sh kd), (V.ref a, O.sh (.dic kvs))])).symm)).dropL)
        · cases ew
      · cases ew
    · exact k2.elim
  · exact k1.elim
end
section
variable {X : Cx} {Γ : Gb} {P : Nat → Bool} {W : WX} {o e : Expr} {td ty : TE} {g gk : aE} {kk : Nat} {apos pos : Pos}
theorem ae_get1 (hr : Room kk X.A) (ho : AE X Γ P W o td g) (he : AE X Γ P W e ty gk) (m : M1 X o "get" apos e pos := by exact ⟨rfl, rfl, rfl, rfl⟩) : AE X Γ P W (.Call (.Attribute o "get" apos) [e] [] pos) (tDGet1 td ty) (aGet1 g gk) := ⟨pe_dget1 (by have := hr.un; omega) ho.pe he.pe m, sx_get1 ho.sx he.sx⟩
end
end Den
end
section
/-! Den, part AI: sorted(a list of tuples). -/
namespace Den
open PySem L2 PySem.Spec PyProof.Rows PySem.W
def rSortD (K : PySem.W.Frag) : List V → Hp → VK → Prop := fun vs H Q => ∃ (a : Addr) (prs : List (V × PyData)), vs = [.ref a] ∧ SqL K H a (prs.map Prod.fst) ∧ (∀ p ∈ prs, Dp K H p.1 p.2) ∧ AllAlike (prs.map Prod.snd) ∧ Sortable (prs.map Prod.snd) ∧ prs.length ≤ 1000 ∧
  (∀ p ∈ prs, p.2.depth ≤ 3) ∧ ∀ p, H p = none → Q (.ref p) (upd H p (.lst ((prs.mergeSort (dataLe false Prod.snd)).map Prod.fst)))
theorem each_vals : ∀ {prs : List (V × PyData)} {us : List Value}, Vals (prs.map Prod.fst) us → EachIs (fun u (p : V × PyData) => RelV p.1 u) us prs
  | [], _, .nil => .nil
  | _ :: _, _, .cons r t => .cons r (each_vals t)
theorem vals_each : ∀ {prs : List (V × PyData)} {us : List Value}, EachIs (fun u (p : V × PyData) => RelV p.1 u) us prs → Vals (prs.map Prod.fst) us
  | _, _, .nil => .nil
  | _, _, .cons r t => .cons r (vals_each t)
theorem each_imp {α β : Type} {R T : α → β → Prop} : ∀ {as : List α} {bs : List β}, EachIs R as bs → (∀ a b, b ∈ bs → R a b → T a b) → EachIs T as bs
  | _, _, .nil, _ => .nil
  | _, _, .cons r t, h => .cons (h _ _ List.mem_cons_self r) (each_imp t fun a b m => h a b (List.mem_cons_of_mem _ m))
theorem cr_sortD {X : Cx} (hu : X.A.units + 64 < cLine) : CallR X (.builtin "sorted") (rSortD X.K) := by
  intro pins s σ H vs us Q I r h
  obtain ⟨a, prs, rfl, ha, hd, hal, hk, few, dep, q⟩ := h
  rw [Vals.ref1 r]
  obtain ⟨its, rv, pl, hz⟩ := I.list ha
  have er := each_vals rv
  refine sorted_data (β := V × PyData) (enc := Prod.snd) (R := fun u p => RelV p.1 u) (bs := prs) pl.isList er (each_imp er fun u p m r => Dp.reads I _ _ _ (hd p m) r) hal hk (by rw [sizeLine_eq]; omega) (fun p m => by have := dep p m; omega) fun out ho eo => ?_
  obtain ⟨c, hc⟩ := sortedAll_at s.heap its (List.toArray out)
  have len : ((prs.mergeSort (dataLe false Prod.snd)).map Prod.fst).length ≤ sizeLine := by
    rw [List.length_map, List.length_mergeSort, sizeLine_eq]
    omega
  have fresh : H (s.heap.objs.size + 1) = none := I.hok.fresh (Nat.le_succ _)
  have keep : ∀ b o, s.heap.get? b = some o → (sortedAll s.heap its (List.toArray out)).get? b = some o := fun _ _ => sortedAll_old
  have new : ObjOk X.prog X.w (upd H (s.heap.objs.size + 1) (.lst ((prs.mergeSort (dataLe false Prod.snd)).map Prod.fst))) (sortedAll s.heap its (List.toArray out)) (s.heap.objs.size + 1) (.lst ((prs.mergeSort (dataLe false Prod.snd)).map Prod.fst)) := ⟨len, out, c, vals_each eo, hc⟩
  have J := I.laid (t' := s.toks) keep (Nat.le_succ s.heap.objs.size) new
  exact ⟨.ref _, _, J, rfl, q _ fresh⟩
def pyT (d : D) : PyData := (toPy d).getD .none
def tupNe : PyData → Bool
  | .tuple (_ :: _) => true
  | _ => false
def sortD (ds : List D) : List D := ds.mergeSort (dataLe false pyT)
def gSortD (o : O) : Option O := match lstD o with
  | some ds => if ds.length ≤ 1000 ∧ (ds.all fun d => (toPy d).isSome && (tupNe (pyT d) && (decide ((pyT d).depth ≤ 3) && ds.all fun d' => alike (pyT d) (pyT d')))) = true then some (.lst ((sortD ds).map O.sh)) else none
  | none => none
section
variable {Γ : Gb}
theorem repL_mem {S : Hp} : ∀ {vs : List V} {ds : List D}, RepL Γ S vs ds → ∀ p ∈ vs.zip ds, Rep Γ S p.1 p.2
  | _, _, .nil, p, m => by cases m
  | _, _, .cons r t, p, m => by
    rcases List.mem_cons.mp (by simpa using m) with rfl | m
    · exact r
    · exact repL_mem t p m
theorem repL_of {S : Hp} : ∀ {prs : List (V × D)}, (∀ p ∈ prs, Rep Γ S p.1 p.2) → RepL Γ S (prs.map Prod.fst) (prs.map Prod.snd)
  | [], _ => .nil
  | p :: prs, h => .cons (h p List.mem_cons_self) (repL_of fun q m => h q (List.mem_cons_of_mem _ m))
theorem ok_sortD : Op1 Γ (C1 (rSortD Γ.K)) gSortD := by
  intro c R H x ox w Q h m e k
  unfold gSortD at e
  split at e
  · rename_i ds el
    split at e
    · rename_i hc
      cases e
      obtain ⟨few, hall⟩ := hc
      rw [List.all_eq_true] at hall
      have hall' : ∀ d ∈ ds, (toPy d).isSome = true ∧ tupNe (pyT d) = true ∧ (pyT d).depth ≤ 3 ∧ ∀ d' ∈ ds, alike (pyT d) (pyT d') = true := fun d hd => by
        have := hall d hd
        simp only [Bool.and_eq_true, decide_eq_true_eq, List.all_eq_true] at this
        exact ⟨this.1, this.2.1, this.2.2.1, this.2.2.2⟩
      obtain ⟨a, xs, rfl, ha, had⟩ := h.lst m el
      have hl := had.len
      obtain ⟨S, sb, rl, ad, ads⟩ := had.ex
      have f1 : (xs.zip ds).map Prod.fst = xs := List.map_fst_zip (by omega)
      have f2 : (xs.zip ds).map Prod.snd = ds := List.map_snd_zip (by omega)
      let g : V × D → V × PyData := fun p => (p.1, pyT p.2)
      have g1 : ((xs.zip ds).map g).map Prod.fst = xs := by rw [List.map_map]; exact f1
      have g2 : ((xs.zip ds).map g).map Prod.snd = ds.map pyT := by
        rw [List.map_map]
        have : (Prod.snd ∘ g : V × D → PyData) = pyT ∘ Prod.snd := rfl
        rw [this, ← List.map_map, f2]
      have rm := repL_mem rl
      have mem2 : ∀ p ∈ xs.zip ds, p.2 ∈ ds := fun p hp => by rw [← f2]; exact List.mem_map_of_mem hp
      refine ⟨a, (xs.zip ds).map g, rfl, ?_, fun p hp => ?_, ?_, ?_, ?_, fun p hp => ?_, fun p hp => ?_⟩
      · rw [g1]
        exact .of ha
      · obtain ⟨q, hq, rfl⟩ := List.mem_map.mp hp
        obtain ⟨y, hy⟩ := Option.isSome_iff_exists.mp (hall' _ (mem2 q hq)).1
        have z := ((rm q hq).mono fun a o e => (sb a o e).1).dp hy
        show Dp Γ.K H q.1 (pyT q.2)
        unfold pyT
        rw [hy]
        exact z
      · rw [g2]
        intro d hd d' hd'
        obtain ⟨u, hu, rfl⟩ := List.mem_map.mp hd
        obtain ⟨u', hu', rfl⟩ := List.mem_map.mp hd'
        exact (hall' u hu).2.2.2 u' hu'
      · rw [g2]
        left
        intro d hd
        obtain ⟨u, hu, rfl⟩ := List.mem_map.mp hd
        have := (hall' u hu).2.1
        generalize pyT u = z at this
        unfold tupNe at this
        split at this
        · exact ⟨_, _, rfl⟩
        · cases this
      · rw [List.length_map, List.length_zip]
        omega
      · obtain ⟨q, hq, rfl⟩ := List.mem_map.mp hp
        exact (hall' _ (mem2 q hq)).2.2.1
      · refine k _ _ ?_
        have e1 : ((xs.zip ds).mergeSort (dataLe false (pyT ∘ Prod.snd))).map g = ((xs.zip ds).map g).mergeSort (dataLe false Prod.snd) := List.map_mergeSort fun _ _ _ _ => rfl
        have e2 : ((xs.zip ds).mergeSort (dataLe false (pyT ∘ Prod.snd))).map Prod.snd = ((xs.zip ds).map Prod.snd).mergeSort (dataLe false pyT) := List.map_mergeSort fun _ _ _ _ => rfl
        rw [← e1, List.map_map]
        have e3 : (Prod.fst ∘ g : V × D → V) = Prod.fst := rfl
        rw [e3]
        have pm : ((xs.zip ds).mergeSort (dataLe false (pyT ∘ Prod.snd))).Perm (xs.zip ds) := List.mergeSort_perm _ _
        have rl2 : RepL Γ S (((xs.zip ds).mergeSort (dataLe false (pyT ∘ Prod.snd))).map Prod.fst) (((xs.zip ds).mergeSort (dataLe false (pyT ∘ Prod.snd))).map Prod.snd) := repL_of fun q hq => rm q (pm.mem_iff.mp hq)
        rw [e2, f2] at rl2
        exact Had.newL ⟨S, sb, rl2, ad, ads⟩ hp
    · cases e
  · cases e
end
end Den
end
section
/-! Den, part AJ: == of empty dicts too; a text times an int; xs[::-1]; isinstance(x, (A, B)); the rule of try .. except C as e: found = [..]. -/
namespace Den
open PySem L2 PySem.Spec PyProof.Rows
section
variable {Γ : Gb}
def dicE : D → Bool
  | .dic [] => true
  | _ => false
def gEqA (x y : O) : Option O := if (dicE (fz x) && dicE (fz y)) = true then some (.sh (.bl true)) else gEq x y
def rEqA (K : PySem.W.Frag) : R2 := fun x y H Q => rEqG K x y H Q ∨ rEqDA x y H Q
theorem or_eqA {X : Cx} (hu : X.A.units + 64 < cLine) : OpR X (compareOp .Eq) (rEqA X.K) := (or_eq hu).or (op_eq_dictA (by omega))
theorem rep_dicE {S : Hp} {v : V} {d : D} (r : Rep Γ S v d) (h : dicE d = true) : ∃ a, v = .ref a ∧ S a = some (.dK []) := by
  unfold dicE at h
  split at h
  · cases r with
    | @dic a kvs _ ha e1 _ =>
      have : kvs = [] := by
        cases kvs with
        | nil => rfl
        | cons _ _ => cases e1
      subst this
      exact ⟨a, rfl, ha⟩
  · cases h
theorem ok_eqA : Op2 Γ (rEqA Γ.K) gEqA := by
  intro c R H x ox y oy w Q h m1 m2 e k
  unfold gEqA at e
  split at e
  · rename_i hc
    cases e
    rw [Bool.and_eq_true] at hc
    obtain ⟨a, rfl, ha⟩ := rep_dicE (h.rep m1) hc.1
    obtain ⟨b, rfl, hb⟩ := rep_dicE (h.rep m2) hc.2
    exact .inr ⟨a, b, [], [], rfl, rfl, ha, hb, rfl, fun p m => (by cases m), k _ _ (h.pure fun _ => .bl _)⟩
  · exact .inl (ok_eq c R H x ox y oy w Q h m1 m2 e k)
/-! ### a text times an int -/
def gMulS : O → O → Option O
  | .sh (.str x), .sh (.int n) => if 0 ≤ n ∧ n ≤ 1000 ∧ x.length ≤ 1000 then some (.sh (.str (Txt.mul x n))) else none
  | _, _ => none
def rMulS : R2 := fun x y H Q => ∃ t n, x = .str t ∧ y = .int n ∧ 0 ≤ n ∧ n ≤ 1000 ∧ t.length ≤ 1000 ∧ Q (.str (Txt.mul t n)) H
theorem mulOk {x : Str} {n : Int} (h1 : 0 ≤ n) (h2 : n ≤ 1000) (h3 : x.length ≤ 1000) : MulOk x n := by
  refine ⟨?_, fun h4 _ => ?_, fun _ _ => ?_⟩
  · rw [decide_eq_false (by omega), decide_eq_false (by omega)]
    rfl
  · have : (2 ^ 63 - 1 : Int) / 1000 ≤ (2 ^ 63 - 1) / n := Int.le_ediv_of_mul_le (by omega) (by
      have : (2 ^ 63 - 1 : Int) / 1000 * n ≤ (2 ^ 63 - 1 : Int) / 1000 * 1000 := Int.mul_le_mul_of_nonneg_left h2 (by decide)
      have h5 : (2 ^ 63 - 1 : Int) / 1000 * 1000 ≤ 2 ^ 63 - 1 := by decide
      omega)
    have h6 : (1000 : Int) < (2 ^ 63 - 1) / 1000 := by decide
    omega
  · unfold Builtin.Str.tooLong
    have : x.length * n.toNat ≤ 1000 * 1000 := Nat.mul_le_mul h3 (by omega)
    rw [decide_eq_false]
    rw [sizeLine_eq]
    omega
theorem op_mulS {X : Cx} : OpR X (binaryOp .Mult) rMulS := by
  intro pins s σ H x y v u Q I rx ry h
  obtain ⟨t, n, rfl, rfl, h1, h2, h3, q⟩ := h
  obtain ⟨_, rfl⟩ := rx
  obtain ⟨_, rfl⟩ := ry
  exact SB.mul (mulOk h1 h2 h3) fun t' k => ⟨.str _, H, I.tok _, ⟨_, rfl⟩, q⟩
theorem ok_mulS : Op2 Γ rMulS gMulS := by
  intro c R H x ox y oy w Q h m1 m2 e k
  unfold gMulS at e
  split at e
  · split at e
    · rename_i hc
      cases e
      exact ⟨_, _, h.str m1, h.int m2, hc.1, hc.2.1, hc.2.2, k _ _ (h.pure fun _ => .str _)⟩
    · cases e
  · cases e
/-! ### xs[::-1] -/
def gRev (o : O) : Option O := match lstD o with
  | some ds => some (.lst (ds.reverse.map O.sh))
  | none => none
def rRevL (K : PySem.W.Frag) : V → Hp → VK → Prop := fun x H Q => ∃ a xs, x = .ref a ∧ SqL K H a xs ∧ ∀ p, H p = none → Q (.ref p) (upd H p (.lst xs.reverse))
theorem ok_rev : Op1 Γ (rRevL Γ.K) gRev := by
  intro c R H x ox w Q h m e k
  unfold gRev at e
  split at e
  · rename_i ds el
    cases e
    obtain ⟨a, xs, rfl, ha, had⟩ := h.lst m el
    refine ⟨a, xs, rfl, .of ha, fun p hp => k _ _ ?_⟩
    obtain ⟨S, sb, rl, ad, ads⟩ := had.ex
    exact Had.newL ⟨S, sb, repL_rev rl, ad, ads⟩ hp
  · cases e
end
section
variable {X : Cx} {Γ : Gb} {P : Nat → Bool} {W : WX} {e a : Expr} {te ta : TE} {od oa : Od} {k : Nat} {p1 p2 p3 pos pn pt pt1 pt2 : Pos} {n1 n2 : String} {x1 x2 : Str} {kt : Nat}
theorem ae_rev (hK : X.K = Γ.K) (ha : AO X Γ P W e te od) : AE X Γ P W (.Subscript e (.Slice none none (some (.UnaryOp .USub (.Constant (.int 1) k p1) p2)) p3) pos) (tRevL Γ.K te) (aOp [od] (l1 gRev)) :=
  ⟨hK ▸ pe_revL ha.pe, show Sx Γ P W (fun σ H Q => te σ H fun x H1 => rRevL Γ.K x H1 Q) _ from sx_op1 (ha.sa sa_nil) ok_rev⟩
theorem ae_isi2 (hK : X.K = Γ.K) (hm : X.mg "isinstance" = none) (ha : AO X Γ P W a ta oa) (hm1 : X.mg x1 = none) (hb1 : bootBuiltins x1 = some (.type n1)) (hm2 : X.mg x2 = none) (hb2 : bootBuiltins x2 = some (.type n2))
    (h1 : n1 = "int" ∨ n1 = "bool" ∨ n1 = "str" ∨ n1 = "tuple" ∨ n1 = "list" ∨ n1 = "dict" := by decide) (h2 : n2 = "int" ∨ n2 = "bool" ∨ n2 = "str" ∨ n2 = "tuple" ∨ n2 = "list" ∨ n2 = "dict" := by decide)
    (hb : bootBuiltins "isinstance" = some (.builtin "isinstance") := by decide +kernel) (hg : Gl X "isinstance" := by rfl) (hg1 : Gl X x1 := by rfl) (hg2 : Gl X x2 := by rfl) (hn1 : x1 ≠ "__name__" := by decide) (hn2 : x2 ≠ "__name__" := by decide)
    (hd1 : (x1 == ("__debug__" : Str)) = false := by decide) (hd2 : (x2 == ("__debug__" : Str)) = false := by decide)
    (he : starEach (a :: [.Tuple [.Name x1 pt1, .Name x2 pt2] kt pt]) X.env = (false, eval a X.env) :: starEach [.Tuple [.Name x1 pt1, .Name x2 pt2] kt pt] X.env := by rfl)
    (he2 : starEach (.Tuple [.Name x1 pt1, .Name x2 pt2] kt pt :: []) X.env = (false, eval (.Tuple [.Name x1 pt1, .Name x2 pt2] kt pt) X.env) :: starEach [] X.env := by rfl)
    (he3 : starEach (.Name x1 pt1 :: [.Name x2 pt2]) X.env = (false, eval (.Name x1 pt1) X.env) :: starEach [.Name x2 pt2] X.env := by rfl) (he4 : starEach (.Name x2 pt2 :: []) X.env = (false, eval (.Name x2 pt2) X.env) :: starEach [] X.env := by rfl)
    (hpl : (backTo pos (starEach [.Tuple [.Name x1 pt1, .Name x2 pt2] kt pt] X.env)).any (·.1) = false := by rfl) :
    AE X Γ P W (.Call (.Name "isinstance" pn) [a, .Tuple [.Name x1 pt1, .Name x2 pt2] kt pt] [] pos) (tCB (rIsiT Γ.K) (tCons ta (tCons (tTup (tCons (tC (.ty n1)) (tCons (tC (.ty n2)) tNil))) tNil))) (aOp [oa] (l1 (gIsi2 n1 n2))) :=
  ⟨hK ▸ pe_callB call_isiT hg hm hb (pa_cons ha.pe (pa_cons (pe_tup (pa_cons (pe_bltn hg1 hm1 hb1 (rfl : RelV (.ty n1) (.type n1)) hn1 hd1) (pa_cons (pe_bltn hg2 hm2 hb2 (rfl : RelV (.ty n2) (.type n2)) hn2 hd2) pa_nil he4) he3)) pa_nil he2) he) (by decide) (by decide) he hpl,
    show Sx Γ P W (fun σ H Q => ta σ H fun x H1 => (fun x H Q => ([V.ty n1, V.ty n2] : List V).length ≤ sizeLine ∧ ∀ p, H p = none → rIsiT Γ.K [x, .ref p] (upd H p (.tup [.ty n1, .ty n2])) Q) x H1 Q) _ from sx_op1 (ha.sa sa_nil) (ok_isi2 h1 h2)⟩
/-! ### try -/
theorem as_tryF {i j c : Nat} {its : List It} {body : List Stmt} {x n z : Str} {es : List Expr} {np zp lp pos' ap : Pos} {tb : WX → TS} {g : aS} (hs : X.stack = X.env :: X.outer) (hf : X.env.frame = some X.env.locals) (hN : X.N.Nodup) (hi : X.N[i]? = some n) (hj : X.N[j]? = some z) (hln : X.env.kindOf n = some .local) (hc : Names X x (.ref (Γ.cls c)))
    (tk : Takes X W) (hK : X.K = Γ.K) (hpi : P i = false) (hpj : P j = false) (hij : i ≠ j) (eP : PySem.W.exmOne Γ.K (.ref (Γ.cls c)) (.ref (Γ.cls c)) = some true) (hsc : its.all isScI = true)
    (hb : ∀ (W' : WX) (pn : List (Addr × Obj)) (xe : Value → Shared → Prop), Takes (X.tr pn xe) W' → AL (X.tr pn xe) Γ P W' body (tb W') g)
    (hsu : ∀ (a : Addr) (oe : Obj) (cls : Value) (d : Option Addr) (pn : List (Addr × Obj)), Zc cls d oe → (∃ vs, oe.data = .fields vs) → PS (X.suite a ((a, oe) :: pn)) (.Assign [.Name z zp] (.List es lp) ap) (tAsg (tLst (itT a cls d (Γ.cls c) i its)) (gName j))) :
    AS X Γ P W (.Try body [.ExceptHandler (some (.Name x np)) (some n) [.Assign [.Name z zp] (.List es lp) ap] pos'] [] [] pos)
      (fun D σ H => tb (wAs Γ.K (.ref (Γ.cls c)) i (fun a cls d => tAsg (tLst (itT a cls d (Γ.cls c) i its)) (gName j)) W D) D σ H) (sTryF g c i j its) :=
  ⟨hK ▸ ps_try_as hs hf hN hi hln hc tk (fun W' pn xe h1 _ => (hb W' pn xe h1).pss) (fun a oe cls d pn hz hf => pss_one (hsu a oe cls d pn hz hf)), ss_tryF hpi hpj hij eP hsc fun W' => (hb W' X.pn (fun u s' => ∃ xe', XE (X.tr X.pn xe') W' u s') fun u s' h => ⟨_, h⟩).sx⟩
end
end Den
namespace Den
open PySem PySem.W
/-- an except clause that names the error's own class takes it -/
theorem exm_self {K : Frag} {C : Addr} (h1 : subIn K (.ref C) (.type "BaseException") = some true) (h2 : isClsIn K C = true) (h3 : typeIn K (.ref C) = some (.type "type")) (h4 : subIn K (.ref C) (.ref C) = some true) : exmOne K (.ref C) (.ref C) = some true := by
  have e : (clsIn K C).isSome = true := h2
  simp [exmOne, kitCls, h1, h3, e, h4]
theorem kit_self {K : Frag} {C : Addr} : kitOne K (.ref C) (.ref C) = some true := by
  unfold kitOne
  rw [if_pos (beq_self_eq_true _)]
theorem kit_no {K : Frag} {C : Addr} {t : String} (h2 : isClsIn K C = true) (h3 : typeIn K (.ref C) = some (.type "type")) (h : subIn K (.type t) (.ref C) = some false) : kitOne K (.type t) (.ref C) = some false := by
  have e : (clsIn K C).isSome = true := h2
  have e2 : (Value.type t == Value.ref C) = false := by
    cases hh : (Value.type t == Value.ref C) with
    | false => rfl
    | true => cases beq_iff_eq.mp hh
  simp [kitOne, kitCls, e2, e, h3, h]
theorem kit_nos {K : Frag} {C : Addr} (h2 : isClsIn K C = true) (h3 : typeIn K (.ref C) = some (.type "type")) (n1 : subIn K (.type "NoneType") (.ref C) = some false) (n2 : subIn K (.type "bool") (.ref C) = some false) (n3 : subIn K (.type "int") (.ref C) = some false)
    (n4 : subIn K (.type "str") (.ref C) = some false) (n5 : subIn K (.type "tuple") (.ref C) = some false) (n6 : subIn K (.type "list") (.ref C) = some false) (n7 : subIn K (.type "dict") (.ref C) = some false) :
    ∀ t ∈ ["NoneType", "bool", "int", "str", "tuple", "list", "dict"], kitOne K (.type t) (.ref C) = some false := fun t ht => by
  simp only [List.mem_cons, List.not_mem_nil, or_false] at ht
  rcases ht with rfl | rfl | rfl | rfl | rfl | rfl | rfl
  · exact kit_no h2 h3 n1
  · exact kit_no h2 h3 n2
  · exact kit_no h2 h3 n3
  · exact kit_no h2 h3 n4
  · exact kit_no h2 h3 n5
  · exact kit_no h2 h3 n6
  · exact kit_no h2 h3 n7
end Den
end
section
/-! Den, part BA: judgments about dens at literal stores, and the rules by which they are told step by step. -/
namespace Den
open PySem L2
def Ev (g : aE) (ρ : Store) (o : O) (ρ' : Store) : Prop := g ρ = .ok o ρ'
def EvX (g : aE) (ρ : Store) (x : Xn) (ρ' : Store) : Prop := g ρ = .exc x ρ'
def EvT (p : aT) (ρ : Store) (b : Bool) (ρ' : Store) : Prop := p ρ = .ok b ρ'
def EvI (s : aI) (ρ : Store) (ds : List D) (ρ' : Store) : Prop := s ρ = .ok ds ρ'
def EvA (ods : List Od) (ρ : Store) (rs : List Rv) (ρ' : Store) : Prop := evA ods ρ = .ok rs ρ'
def EvO (ods : List Od) (ρ : Store) (os : List O) (ρ' : Store) : Prop := ∃ rs, evA ods ρ = .ok rs ρ' ∧ rsv ρ' rs = some os
def EvS (ods : List Od) (ρ : Store) (ds : List D) (ρ' : Store) : Prop := EvO ods ρ (ds.map O.sh) ρ'
def EvP (g : Option aE) (ρ : Store) (i : Option Int) (ρ' : Store) : Prop := aP g ρ = .ok i ρ'
def At (ρ : Store) (i : Nat) (o : O) : Prop := ρ[i]? = some (some o)
def Em (ρ : Store) (i : Nat) : Prop := ρ[i]? = some none
def Fu (ρ : Store) (i : Nat) : Prop := ∃ o, ρ[i]? = some (some o)
def St (ρ : Store) (i : Nat) (x : Option O) (ρ' : Store) : Prop := i < ρ.length ∧ ρ' = ρ.set i x
def Fz (o : O) (d : D) : Prop := fz o = d
def Own (o : O) : Prop := ∀ d, o ≠ .sh d
def Tg (tg : aG) (d : D) (ρ ρ' : Store) : Prop := tg d ρ = some ρ'
def Tgs (tg : List aG) (d : List D) (ρ ρ' : Store) : Prop := aGs tg d ρ = some ρ'
def Tak (ρ : Store) (rs : List Rv) (os : List O) (ρ' : Store) : Prop := tak ρ rs = some (os, ρ')
def Giv (ρ : Store) (rs : List Rv) (os : List O) (ρ' : Store) : Prop := rs.length = os.length ∧ giv ρ rs os = ρ'
/-- a bound, to be shown last -/
def Sz (P : Prop) : Prop := P
theorem Sz.go {P : Prop} (h : Sz P) : P := h
/-- an own list of shared things -/
def oL (ds : List D) : O := .lst (ds.map O.sh)
theorem fz_oL (ds : List D) : fz (oL ds) = .lst ds := by rw [oL, fz, fzL_sh]
theorem lstD_oL (ds : List D) : lstD (oL ds) = some ds := shs_map _
theorem fz_1 {d : D} : Fz (.sh d) d := by rw [Fz, fz]
theorem fz_2 {ds : List D} : Fz (oL ds) (.lst ds) := fz_oL ds
theorem fz_0 {o : O} : Fz o (fz o) := rfl
theorem own_L {ds : List D} : Own (oL ds) := fun d z => by cases z
theorem own_d {kvs : List (D × O)} : Own (.dic kvs) := fun d z => by cases z
theorem own_t {kvs : List (D × O)} : Own (.dit kvs) := fun d z => by cases z
theorem own_o {c : Nat} {fs : List (Str × O)} : Own (.obj c fs) := fun d z => by cases z

theorem at0 {o : O} {ρ : Store} : At (some o :: ρ) 0 o := rfl
theorem em0 {ρ : Store} : Em (none :: ρ) 0 := rfl
theorem fu0 {o : O} {ρ : Store} : Fu (some o :: ρ) 0 := ⟨_, rfl⟩
theorem st0 {x y : Option O} {ρ : Store} : St (x :: ρ) 0 y (y :: ρ) := ⟨by simp only [List.length_cons]; omega, rfl⟩
theorem at1 {x0 : Option O} {o : O} {ρ : Store} : At (x0 :: some o :: ρ) 1 o := rfl
theorem em1 {x0 : Option O} {ρ : Store} : Em (x0 :: none :: ρ) 1 := rfl
theorem fu1 {x0 : Option O} {o : O} {ρ : Store} : Fu (x0 :: some o :: ρ) 1 := ⟨_, rfl⟩
theorem st1 {x0 : Option O} {x y : Option O} {ρ : Store} : St (x0 :: x :: ρ) 1 y (x0 :: y :: ρ) := ⟨by simp only [List.length_cons]; omega, rfl⟩
theorem at2 {x0 x1 : Option O} {o : O} {ρ : Store} : At (x0 :: x1 :: some o :: ρ) 2 o := rfl
theorem em2 {x0 x1 : Option O} {ρ : Store} : Em (x0 :: x1 :: none :: ρ) 2 := rfl
theorem fu2 {x0 x1 : Option O} {o : O} {ρ : Store} : Fu (x0 :: x1 :: some o :: ρ) 2 := ⟨_, rfl⟩
theorem st2 {x0 x1 : Option O} {x y : Option O} {ρ : Store} : St (x0 :: x1 :: x :: ρ) 2 y (x0 :: x1 :: y :: ρ) := ⟨by simp only [List.length_cons]; omega, rfl⟩
theorem at3 {x0 x1 x2 : Option O} {o : O} {ρ : Store} : At (x0 :: x1 :: x2 :: some o :: ρ) 3 o := rfl
theorem em3 {x0 x1 x2 : Option O} {ρ : Store} : Em (x0 :: x1 :: x2 :: none :: ρ) 3 := rfl
theorem fu3 {x0 x1 x2 : Option O} {o : O} {ρ : Store} : Fu (x0 :: x1 :: x2 :: some o :: ρ) 3 := ⟨_, rfl⟩
theorem st3 {x0 x1 x2 : Option O} {x y : Option O} {ρ : Store} : St (x0 :: x1 :: x2 :: x :: ρ) 3 y (x0 :: x1 :: x2 :: y :: ρ) := ⟨by simp only [List.length_cons]; omega, rfl⟩
theorem at4 {x0 x1 x2 x3 : Option O} {o : O} {ρ : Store} : At (x0 :: x1 :: x2 :: x3 :: some o :: ρ) 4 o := rfl
theorem em4 {x0 x1 x2 x3 : Option O} {ρ : Store} : Em (x0 :: x1 :: x2 :: x3 :: none :: ρ) 4 := rfl
theorem fu4 {x0 x1 x2 x3 : Option O} {o : O} {ρ : Store} : Fu (x0 :: x1 :: x2 :: x3 :: some o :: ρ) 4 := ⟨_, rfl⟩
theorem st4 {x0 x1 x2 x3 : Option O} {x y : Option O} {ρ : Store} : St (x0 :: x1 :: x2 :: x3 :: x :: ρ) 4 y (x0 :: x1 :: x2 :: x3 :: y :: ρ) := ⟨by simp only [List.length_cons]; omega, rfl⟩
theorem at5 {x0 x1 x2 x3 x4 : Option O} {o : O} {ρ : Store} : At (x0 :: x1 :: x2 :: x3 :: x4 :: some o :: ρ) 5 o := rfl
theorem em5 {x0 x1 x2 x3 x4 : Option O} {ρ : Store} : Em (x0 :: x1 :: x2 :: x3 :: x4 :: none :: ρ) 5 := rfl
theorem fu5 {x0 x1 x2 x3 x4 : Option O} {o : O} {ρ : Store} : Fu (x0 :: x1 :: x2 :: x3 :: x4 :: some o :: ρ) 5 := ⟨_, rfl⟩
theorem st5 {x0 x1 x2 x3 x4 : Option O} {x y : Option O} {ρ : Store} : St (x0 :: x1 :: x2 :: x3 :: x4 :: x :: ρ) 5 y (x0 :: x1 :: x2 :: x3 :: x4 :: y :: ρ) := ⟨by simp only [List.length_cons]; omega, rfl⟩
theorem at6 {x0 x1 x2 x3 x4 x5 : Option O} {o : O} {ρ : Store} : At (x0 :: x1 :: x2 :: x3 :: x4 :: x5 :: some o :: ρ) 6 o := rfl
theorem em6 {x0 x1 x2 x3 x4 x5 : Option O} {ρ : Store} : Em (x0 :: x1 :: x2 :: x3 :: x4 :: x5 :: none :: ρ) 6 := rfl
theorem fu6 {x0 x1 x2 x3 x4 x5 : Option O} {o : O} {ρ : Store} : Fu (x0 :: x1 :: x2 :: x3 :: x4 :: x5 :: some o :: ρ) 6 := ⟨_, rfl⟩
theorem st6 {x0 x1 x2 x3 x4 x5 : Option O} {x y : Option O} {ρ : Store} : St (x0 :: x1 :: x2 :: x3 :: x4 :: x5 :: x :: ρ) 6 y (x0 :: x1 :: x2 :: x3 :: x4 :: x5 :: y :: ρ) := ⟨by simp only [List.length_cons]; omega, rfl⟩
theorem at7 {x0 x1 x2 x3 x4 x5 x6 : Option O} {o : O} {ρ : Store} : At (x0 :: x1 :: x2 :: x3 :: x4 :: x5 :: x6 :: some o :: ρ) 7 o := rfl
theorem em7 {x0 x1 x2 x3 x4 x5 x6 : Option O} {ρ : Store} : Em (x0 :: x1 :: x2 :: x3 :: x4 :: x5 :: x6 :: none :: ρ) 7 := rfl
theorem fu7 {x0 x1 x2 x3 x4 x5 x6 : Option O} {o : O} {ρ : Store} : Fu (x0 :: x1 :: x2 :: x3 :: x4 :: x5 :: x6 :: some o :: ρ) 7 := ⟨_, rfl⟩
theorem st7 {x0 x1 x2 x3 x4 x5 x6 : Option O} {x y : Option O} {ρ : Store} : St (x0 :: x1 :: x2 :: x3 :: x4 :: x5 :: x6 :: x :: ρ) 7 y (x0 :: x1 :: x2 :: x3 :: x4 :: x5 :: x6 :: y :: ρ) := ⟨by simp only [List.length_cons]; omega, rfl⟩
theorem at8 {x0 x1 x2 x3 x4 x5 x6 x7 : Option O} {o : O} {ρ : Store} : At (x0 :: x1 :: x2 :: x3 :: x4 :: x5 :: x6 :: x7 :: some o :: ρ) 8 o := rfl
theorem em8 {x0 x1 x2 x3 x4 x5 x6 x7 : Option O} {ρ : Store} : Em (x0 :: x1 :: x2 :: x3 :: x4 :: x5 :: x6 :: x7 :: none :: ρ) 8 := rfl
theorem fu8 {x0 x1 x2 x3 x4 x5 x6 x7 : Option O} {o : O} {ρ : Store} : Fu (x0 :: x1 :: x2 :: x3 :: x4 :: x5 :: x6 :: x7 :: some o :: ρ) 8 := ⟨_, rfl⟩
theorem st8 {x0 x1 x2 x3 x4 x5 x6 x7 : Option O} {x y : Option O} {ρ : Store} : St (x0 :: x1 :: x2 :: x3 :: x4 :: x5 :: x6 :: x7 :: x :: ρ) 8 y (x0 :: x1 :: x2 :: x3 :: x4 :: x5 :: x6 :: x7 :: y :: ρ) := ⟨by simp only [List.length_cons]; omega, rfl⟩
theorem at9 {x0 x1 x2 x3 x4 x5 x6 x7 x8 : Option O} {o : O} {ρ : Store} : At (x0 :: x1 :: x2 :: x3 :: x4 :: x5 :: x6 :: x7 :: x8 :: some o :: ρ) 9 o := rfl
theorem em9 {x0 x1 x2 x3 x4 x5 x6 x7 x8 : Option O} {ρ : Store} : Em (x0 :: x1 :: x2 :: x3 :: x4 :: x5 :: x6 :: x7 :: x8 :: none :: ρ) 9 := rfl
theorem fu9 {x0 x1 x2 x3 x4 x5 x6 x7 x8 : Option O} {o : O} {ρ : Store} : Fu (x0 :: x1 :: x2 :: x3 :: x4 :: x5 :: x6 :: x7 :: x8 :: some o :: ρ) 9 := ⟨_, rfl⟩
theorem st9 {x0 x1 x2 x3 x4 x5 x6 x7 x8 : Option O} {x y : Option O} {ρ : Store} : St (x0 :: x1 :: x2 :: x3 :: x4 :: x5 :: x6 :: x7 :: x8 :: x :: ρ) 9 y (x0 :: x1 :: x2 :: x3 :: x4 :: x5 :: x6 :: x7 :: x8 :: y :: ρ) := ⟨by simp only [List.length_cons]; omega, rfl⟩
theorem at10 {x0 x1 x2 x3 x4 x5 x6 x7 x8 x9 : Option O} {o : O} {ρ : Store} : At (x0 :: x1 :: x2 :: x3 :: x4 :: x5 :: x6 :: x7 :: x8 :: x9 :: some o :: ρ) 10 o := rfl
theorem em10 {x0 x1 x2 x3 x4 x5 x6 x7 x8 x9 : Option O} {ρ : Store} : Em (x0 :: x1 :: x2 :: x3 :: x4 :: x5 :: x6 :: x7 :: x8 :: x9 :: none :: ρ) 10 := rfl
theorem fu10 {x0 x1 x2 x3 x4 x5 x6 x7 x8 x9 : Option O} {o : O} {ρ : Store} : Fu (x0 :: x1 :: x2 :: x3 :: x4 :: x5 :: x6 :: x7 :: x8 :: x9 :: some o :: ρ) 10 := ⟨_, rfl⟩
theorem st10 {x0 x1 x2 x3 x4 x5 x6 x7 x8 x9 : Option O} {x y : Option O} {ρ : Store} : St (x0 :: x1 :: x2 :: x3 :: x4 :: x5 :: x6 :: x7 :: x8 :: x9 :: x :: ρ) 10 y (x0 :: x1 :: x2 :: x3 :: x4 :: x5 :: x6 :: x7 :: x8 :: x9 :: y :: ρ) := ⟨by simp only [List.length_cons]; omega, rfl⟩
theorem at11 {x0 x1 x2 x3 x4 x5 x6 x7 x8 x9 x10 : Option O} {o : O} {ρ : Store} : At (x0 :: x1 :: x2 :: x3 :: x4 :: x5 :: x6 :: x7 :: x8 :: x9 :: x10 :: some o :: ρ) 11 o := rfl
theorem em11 {x0 x1 x2 x3 x4 x5 x6 x7 x8 x9 x10 : Option O} {ρ : Store} : Em (x0 :: x1 :: x2 :: x3 :: x4 :: x5 :: x6 :: x7 :: x8 :: x9 :: x10 :: none :: ρ) 11 := rfl
theorem fu11 {x0 x1 x2 x3 x4 x5 x6 x7 x8 x9 x10 : Option O} {o : O} {ρ : Store} : Fu (x0 :: x1 :: x2 :: x3 :: x4 :: x5 :: x6 :: x7 :: x8 :: x9 :: x10 :: some o :: ρ) 11 := ⟨_, rfl⟩
theorem st11 {x0 x1 x2 x3 x4 x5 x6 x7 x8 x9 x10 : Option O} {x y : Option O} {ρ : Store} : St (x0 :: x1 :: x2 :: x3 :: x4 :: x5 :: x6 :: x7 :: x8 :: x9 :: x10 :: x :: ρ) 11 y (x0 :: x1 :: x2 :: x3 :: x4 :: x5 :: x6 :: x7 :: x8 :: x9 :: x10 :: y :: ρ) := ⟨by simp only [List.length_cons]; omega, rfl⟩
theorem at12 {x0 x1 x2 x3 x4 x5 x6 x7 x8 x9 x10 x11 : Option O} {o : O} {ρ : Store} : At (x0 :: x1 :: x2 :: x3 :: x4 :: x5 :: x6 :: x7 :: x8 :: x9 :: x10 :: x11 :: some o :: ρ) 12 o := rfl
theorem em12 {x0 x1 x2 x3 x4 x5 x6 x7 x8 x9 x10 x11 : Option O} {ρ : Store} : Em (x0 :: x1 :: x2 :: x3 :: x4 :: x5 :: x6 :: x7 :: x8 :: x9 :: x10 :: x11 :: none :: ρ) 12 := rfl
theorem fu12 {x0 x1 x2 x3 x4 x5 x6 x7 x8 x9 x10 x11 : Option O} {o : O} {ρ : Store} : Fu (x0 :: x1 :: x2 :: x3 :: x4 :: x5 :: x6 :: x7 :: x8 :: x9 :: x10 :: x11 :: some o :: ρ) 12 := ⟨_, rfl⟩
theorem st12 {x0 x1 x2 x3 x4 x5 x6 x7 x8 x9 x10 x11 : Option O} {x y : Option O} {ρ : Store} : St (x0 :: x1 :: x2 :: x3 :: x4 :: x5 :: x6 :: x7 :: x8 :: x9 :: x10 :: x11 :: x :: ρ) 12 y (x0 :: x1 :: x2 :: x3 :: x4 :: x5 :: x6 :: x7 :: x8 :: x9 :: x10 :: x11 :: y :: ρ) := ⟨by simp only [List.length_cons]; omega, rfl⟩
theorem at13 {x0 x1 x2 x3 x4 x5 x6 x7 x8 x9 x10 x11 x12 : Option O} {o : O} {ρ : Store} : At (x0 :: x1 :: x2 :: x3 :: x4 :: x5 :: x6 :: x7 :: x8 :: x9 :: x10 :: x11 :: x12 :: some o :: ρ) 13 o := rfl
theorem em13 {x0 x1 x2 x3 x4 x5 x6 x7 x8 x9 x10 x11 x12 : Option O} {ρ : Store} : Em (x0 :: x1 :: x2 :: x3 :: x4 :: x5 :: x6 :: x7 :: x8 :: x9 :: x10 :: x11 :: x12 :: none :: ρ) 13 := rfl
theorem fu13 {x0 x1 x2 x3 x4 x5 x6 x7 x8 x9 x10 x11 x12 : Option O} {o : O} {ρ : Store} : Fu (x0 :: x1 :: x2 :: x3 :: x4 :: x5 :: x6 :: x7 :: x8 :: x9 :: x10 :: x11 :: x12 :: some o :: ρ) 13 := ⟨_, rfl⟩
theorem st13 {x0 x1 x2 x3 x4 x5 x6 x7 x8 x9 x10 x11 x12 : Option O} {x y : Option O} {ρ : Store} : St (x0 :: x1 :: x2 :: x3 :: x4 :: x5 :: x6 :: x7 :: x8 :: x9 :: x10 :: x11 :: x12 :: x :: ρ) 13 y (x0 :: x1 :: x2 :: x3 :: x4 :: x5 :: x6 :: x7 :: x8 :: x9 :: x10 :: x11 :: x12 :: y :: ρ) := ⟨by simp only [List.length_cons]; omega, rfl⟩
theorem at14 {x0 x1 x2 x3 x4 x5 x6 x7 x8 x9 x10 x11 x12 x13 : Option O} {o : O} {ρ : Store} : At (x0 :: x1 :: x2 :: x3 :: x4 :: x5 :: x6 :: x7 :: x8 :: x9 :: x10 :: x11 :: x12 :: x13 :: some o :: ρ) 14 o := rfl
theorem em14 {x0 x1 x2 x3 x4 x5 x6 x7 x8 x9 x10 x11 x12 x13 : Option O} {ρ : Store} : Em (x0 :: x1 :: x2 :: x3 :: x4 :: x5 :: x6 :: x7 :: x8 :: x9 :: x10 :: x11 :: x12 :: x13 :: none :: ρ) 14 := rfl
theorem fu14 {x0 x1 x2 x3 x4 x5 x6 x7 x8 x9 x10 x11 x12 x13 : Option O} {o : O} {ρ : Store} : Fu (x0 :: x1 :: x2 :: x3 :: x4 :: x5 :: x6 :: x7 :: x8 :: x9 :: x10 :: x11 :: x12 :: x13 :: some o :: ρ) 14 := ⟨_, rfl⟩
theorem st14 {x0 x1 x2 x3 x4 x5 x6 x7 x8 x9 x10 x11 x12 x13 : Option O} {x y : Option O} {ρ : Store} : St (x0 :: x1 :: x2 :: x3 :: x4 :: x5 :: x6 :: x7 :: x8 :: x9 :: x10 :: x11 :: x12 :: x13 :: x :: ρ) 14 y (x0 :: x1 :: x2 :: x3 :: x4 :: x5 :: x6 :: x7 :: x8 :: x9 :: x10 :: x11 :: x12 :: x13 :: y :: ρ) := ⟨by simp only [List.length_cons]; omega, rfl⟩
theorem at15 {x0 x1 x2 x3 x4 x5 x6 x7 x8 x9 x10 x11 x12 x13 x14 : Option O} {o : O} {ρ : Store} : At (x0 :: x1 :: x2 :: x3 :: x4 :: x5 :: x6 :: x7 :: x8 :: x9 :: x10 :: x11 :: x12 :: x13 :: x14 :: some o :: ρ) 15 o := rfl
theorem em15 {x0 x1 x2 x3 x4 x5 x6 x7 x8 x9 x10 x11 x12 x13 x14 : Option O} {ρ : Store} : Em (x0 :: x1 :: x2 :: x3 :: x4 :: x5 :: x6 :: x7 :: x8 :: x9 :: x10 :: x11 :: x12 :: x13 :: x14 :: none :: ρ) 15 := rfl
theorem fu15 {x0 x1 x2 x3 x4 x5 x6 x7 x8 x9 x10 x11 x12 x13 x14 : Option O} {o : O} {ρ : Store} : Fu (x0 :: x1 :: x2 :: x3 :: x4 :: x5 :: x6 :: x7 :: x8 :: x9 :: x10 :: x11 :: x12 :: x13 :: x14 :: some o :: ρ) 15 := ⟨_, rfl⟩
theorem st15 {x0 x1 x2 x3 x4 x5 x6 x7 x8 x9 x10 x11 x12 x13 x14 : Option O} {x y : Option O} {ρ : Store} : St (x0 :: x1 :: x2 :: x3 :: x4 :: x5 :: x6 :: x7 :: x8 :: x9 :: x10 :: x11 :: x12 :: x13 :: x14 :: x :: ρ) 15 y (x0 :: x1 :: x2 :: x3 :: x4 :: x5 :: x6 :: x7 :: x8 :: x9 :: x10 :: x11 :: x12 :: x13 :: x14 :: y :: ρ) := ⟨by simp only [List.length_cons]; omega, rfl⟩
theorem at16 {x0 x1 x2 x3 x4 x5 x6 x7 x8 x9 x10 x11 x12 x13 x14 x15 : Option O} {o : O} {ρ : Store} : At (x0 :: x1 :: x2 :: x3 :: x4 :: x5 :: x6 :: x7 :: x8 :: x9 :: x10 :: x11 :: x12 :: x13 :: x14 :: x15 :: some o :: ρ) 16 o := rfl
theorem em16 {x0 x1 x2 x3 x4 x5 x6 x7 x8 x9 x10 x11 x12 x13 x14 x15 : Option O} {ρ : Store} : Em (x0 :: x1 :: x2 :: x3 :: x4 :: x5 :: x6 :: x7 :: x8 :: x9 :: x10 :: x11 :: x12 :: x13 :: x14 :: x15 :: none :: ρ) 16 := rfl
theorem fu16 {x0 x1 x2 x3 x4 x5 x6 x7 x8 x9 x10 x11 x12 x13 x14 x15 : Option O} {o : O} {ρ : Store} : Fu (x0 :: x1 :: x2 :: x3 :: x4 :: x5 :: x6 :: x7 :: x8 :: x9 :: x10 :: x11 :: x12 :: x13 :: x14 :: x15 :: some o :: ρ) 16 := ⟨_, rfl⟩
theorem st16 {x0 x1 x2 x3 x4 x5 x6 x7 x8 x9 x10 x11 x12 x13 x14 x15 : Option O} {x y : Option O} {ρ : Store} : St (x0 :: x1 :: x2 :: x3 :: x4 :: x5 :: x6 :: x7 :: x8 :: x9 :: x10 :: x11 :: x12 :: x13 :: x14 :: x15 :: x :: ρ) 16 y (x0 :: x1 :: x2 :: x3 :: x4 :: x5 :: x6 :: x7 :: x8 :: x9 :: x10 :: x11 :: x12 :: x13 :: x14 :: x15 :: y :: ρ) := ⟨by simp only [List.length_cons]; omega, rfl⟩
theorem at17 {x0 x1 x2 x3 x4 x5 x6 x7 x8 x9 x10 x11 x12 x13 x14 x15 x16 : Option O} {o : O} {ρ : Store} : At (x0 :: x1 :: x2 :: x3 :: x4 :: x5 :: x6 :: x7 :: x8 :: x9 :: x10 :: x11 :: x12 :: x13 :: x14 :: x15 :: x16 :: some o :: ρ) 17 o := rfl
theorem em17 {x0 x1 x2 x3 x4 x5 x6 x7 x8 x9 x10 x11 x12 x13 x14 x15 x16 : Option O} {ρ : Store} : Em (x0 :: x1 :: x2 :: x3 :: x4 :: x5 :: x6 :: x7 :: x8 :: x9 :: x10 :: x11 :: x12 :: x13 :: x14 :: x15 :: x16 :: none :: ρ) 17 := rfl
theorem fu17 {x0 x1 x2 x3 x4 x5 x6 x7 x8 x9 x10 x11 x12 x13 x14 x15 x16 : Option O} {o : O} {ρ : Store} : Fu (x0 :: x1 :: x2 :: x3 :: x4 :: x5 :: x6 :: x7 :: x8 :: x9 :: x10 :: x11 :: x12 :: x13 :: x14 :: x15 :: x16 :: some o :: ρ) 17 := ⟨_, rfl⟩
theorem st17 {x0 x1 x2 x3 x4 x5 x6 x7 x8 x9 x10 x11 x12 x13 x14 x15 x16 : Option O} {x y : Option O} {ρ : Store} : St (x0 :: x1 :: x2 :: x3 :: x4 :: x5 :: x6 :: x7 :: x8 :: x9 :: x10 :: x11 :: x12 :: x13 :: x14 :: x15 :: x16 :: x :: ρ) 17 y (x0 :: x1 :: x2 :: x3 :: x4 :: x5 :: x6 :: x7 :: x8 :: x9 :: x10 :: x11 :: x12 :: x13 :: x14 :: x15 :: x16 :: y :: ρ) := ⟨by simp only [List.length_cons]; omega, rfl⟩
theorem at18 {x0 x1 x2 x3 x4 x5 x6 x7 x8 x9 x10 x11 x12 x13 x14 x15 x16 x17 : Option O} {o : O} {ρ : Store} : At (x0 :: x1 :: x2 :: x3 :: x4 :: x5 :: x6 :: x7 :: x8 :: x9 :: x10 :: x11 :: x12 :: x13 :: x14 :: x15 :: x16 :: x17 :: some o :: ρ) 18 o := rfl
theorem em18 {x0 x1 x2 x3 x4 x5 x6 x7 x8 x9 x10 x11 x12 x13 x14 x15 x16 x17 : Option O} {ρ : Store} : Em (x0 :: x1 :: x2 :: x3 :: x4 :: x5 :: x6 :: x7 :: x8 :: x9 :: x10 :: x11 :: x12 :: x13 :: x14 :: x15 :: x16 :: x17 :: none :: ρ) 18 := rfl
theorem fu18 {x0 x1 x2 x3 x4 x5 x6 x7 x8 x9 x10 x11 x12 x13 x14 x15 x16 x17 : Option O} {o : O} {ρ : Store} : Fu (x0 :: x1 :: x2 :: x3 :: x4 :: x5 :: x6 :: x7 :: x8 :: x9 :: x10 :: x11 :: x12 :: x13 :: x14 :: x15 :: x16 :: x17 :: some o :: ρ) 18 := ⟨_, rfl⟩
theorem st18 {x0 x1 x2 x3 x4 x5 x6 x7 x8 x9 x10 x11 x12 x13 x14 x15 x16 x17 : Option O} {x y : Option O} {ρ : Store} : St (x0 :: x1 :: x2 :: x3 :: x4 :: x5 :: x6 :: x7 :: x8 :: x9 :: x10 :: x11 :: x12 :: x13 :: x14 :: x15 :: x16 :: x17 :: x :: ρ) 18 y (x0 :: x1 :: x2 :: x3 :: x4 :: x5 :: x6 :: x7 :: x8 :: x9 :: x10 :: x11 :: x12 :: x13 :: x14 :: x15 :: x16 :: x17 :: y :: ρ) := ⟨by simp only [List.length_cons]; omega, rfl⟩
theorem at19 {x0 x1 x2 x3 x4 x5 x6 x7 x8 x9 x10 x11 x12 x13 x14 x15 x16 x17 x18 : Option O} {o : O} {ρ : Store} : At (x0 :: x1 :: x2 :: x3 :: x4 :: x5 :: x6 :: x7 :: x8 :: x9 :: x10 :: x11 :: x12 :: x13 :: x14 :: x15 :: x16 :: x17 :: x18 :: some o :: ρ) 19 o := rfl
theorem em19 {x0 x1 x2 x3 x4 x5 x6 x7 x8 x9 x10 x11 x12 x13 x14 x15 x16 x17 x18 : Option O} {ρ : Store} : Em (x0 :: x1 :: x2 :: x3 :: x4 :: x5 :: x6 :: x7 :: x8 :: x9 :: x10 :: x11 :: x12 :: x13 :: x14 :: x15 :: x16 :: x17 :: x18 :: none :: ρ) 19 := rfl
theorem fu19 {x0 x1 x2 x3 x4 x5 x6 x7 x8 x9 x10 x11 x12 x13 x14 x15 x16 x17 x18 : Option O} {o : O} {ρ : Store} : Fu (x0 :: x1 :: x2 :: x3 :: x4 :: x5 :: x6 :: x7 :: x8 :: x9 :: x10 :: x11 :: x12 :: x13 :: x14 :: x15 :: x16 :: x17 :: x18 :: some o :: ρ) 19 := ⟨_, rfl⟩
theorem st19 {x0 x1 x2 x3 x4 x5 x6 x7 x8 x9 x10 x11 x12 x13 x14 x15 x16 x17 x18 : Option O} {x y : Option O} {ρ : Store} : St (x0 :: x1 :: x2 :: x3 :: x4 :: x5 :: x6 :: x7 :: x8 :: x9 :: x10 :: x11 :: x12 :: x13 :: x14 :: x15 :: x16 :: x17 :: x18 :: x :: ρ) 19 y (x0 :: x1 :: x2 :: x3 :: x4 :: x5 :: x6 :: x7 :: x8 :: x9 :: x10 :: x11 :: x12 :: x13 :: x14 :: x15 :: x16 :: x17 :: x18 :: y :: ρ) := ⟨by simp only [List.length_cons]; omega, rfl⟩
theorem at20 {x0 x1 x2 x3 x4 x5 x6 x7 x8 x9 x10 x11 x12 x13 x14 x15 x16 x17 x18 x19 : Option O} {o : O} {ρ : Store} : At (x0 :: x1 :: x2 :: x3 :: x4 :: x5 :: x6 :: x7 :: x8 :: x9 :: x10 :: x11 :: x12 :: x13 :: x14 :: x15 :: x16 :: x17 :: x18 :: x19 :: some o :: ρ) 20 o := rfl
theorem em20 {x0 x1 x2 x3 x4 x5 x6 x7 x8 x9 x10 x11 x12 x13 x14 x15 x16 x17 x18 x19 : Option O} {ρ : Store} : Em (x0 :: x1 :: x2 :: x3 :: x4 :: x5 :: x6 :: x7 :: x8 :: x9 :: x10 :: x11 :: x12 :: x13 :: x14 :: x15 :: x16 :: x17 :: x18 :: x19 :: none :: ρ) 20 := rfl
theorem fu20 {x0 x1 x2 x3 x4 x5 x6 x7 x8 x9 x10 x11 x12 x13 x14 x15 x16 x17 x18 x19 : Option O} {o : O} {ρ : Store} : Fu (x0 :: x1 :: x2 :: x3 :: x4 :: x5 :: x6 :: x7 :: x8 :: x9 :: x10 :: x11 :: x12 :: x13 :: x14 :: x15 :: x16 :: x17 :: x18 :: x19 :: some o :: ρ) 20 := ⟨_, rfl⟩
theorem st20 {x0 x1 x2 x3 x4 x5 x6 x7 x8 x9 x10 x11 x12 x13 x14 x15 x16 x17 x18 x19 : Option O} {x y : Option O} {ρ : Store} : St (x0 :: x1 :: x2 :: x3 :: x4 :: x5 :: x6 :: x7 :: x8 :: x9 :: x10 :: x11 :: x12 :: x13 :: x14 :: x15 :: x16 :: x17 :: x18 :: x19 :: x :: ρ) 20 y (x0 :: x1 :: x2 :: x3 :: x4 :: x5 :: x6 :: x7 :: x8 :: x9 :: x10 :: x11 :: x12 :: x13 :: x14 :: x15 :: x16 :: x17 :: x18 :: x19 :: y :: ρ) := ⟨by simp only [List.length_cons]; omega, rfl⟩
theorem at21 {x0 x1 x2 x3 x4 x5 x6 x7 x8 x9 x10 x11 x12 x13 x14 x15 x16 x17 x18 x19 x20 : Option O} {o : O} {ρ : Store} : At (x0 :: x1 :: x2 :: x3 :: x4 :: x5 :: x6 :: x7 :: x8 :: x9 :: x10 :: x11 :: x12 :: x13 :: x14 :: x15 :: x16 :: x17 :: x18 :: x19 :: x20 :: some o :: ρ) 21 o := rfl
theorem em21 {x0 x1 x2 x3 x4 x5 x6 x7 x8 x9 x10 x11 x12 x13 x14 x15 x16 x17 x18 x19 x20 : Option O} {ρ : Store} : Em (x0 :: x1 :: x2 :: x3 :: x4 :: x5 :: x6 :: x7 :: x8 :: x9 :: x10 :: x11 :: x12 :: x13 :: x14 :: x15 :: x16 :: x17 :: x18 :: x19 :: x20 :: none :: ρ) 21 := rfl
theorem fu21 {x0 x1 x2 x3 x4 x5 x6 x7 x8 x9 x10 x11 x12 x13 x14 x15 x16 x17 x18 x19 x20 : Option O} {o : O} {ρ : Store} : Fu (x0 :: x1 :: x2 :: x3 :: x4 :: x5 :: x6 :: x7 :: x8 :: x9 :: x10 :: x11 :: x12 :: x13 :: x14 :: x15 :: x16 :: x17 :: x18 :: x19 :: x20 :: some o :: ρ) 21 := ⟨_, rfl⟩
theorem st21 {x0 x1 x2 x3 x4 x5 x6 x7 x8 x9 x10 x11 x12 x13 x14 x15 x16 x17 x18 x19 x20 : Option O} {x y : Option O} {ρ : Store} : St (x0 :: x1 :: x2 :: x3 :: x4 :: x5 :: x6 :: x7 :: x8 :: x9 :: x10 :: x11 :: x12 :: x13 :: x14 :: x15 :: x16 :: x17 :: x18 :: x19 :: x20 :: x :: ρ) 21 y (x0 :: x1 :: x2 :: x3 :: x4 :: x5 :: x6 :: x7 :: x8 :: x9 :: x10 :: x11 :: x12 :: x13 :: x14 :: x15 :: x16 :: x17 :: x18 :: x19 :: x20 :: y :: ρ) := ⟨by simp only [List.length_cons]; omega, rfl⟩
theorem at22 {x0 x1 x2 x3 x4 x5 x6 x7 x8 x9 x10 x11 x12 x13 x14 x15 x16 x17 x18 x19 x20 x21 : Option O} {o : O} {ρ : Store} : At (x0 :: x1 :: x2 :: x3 :: x4 :: x5 :: x6 :: x7 :: x8 :: x9 :: x10 :: x11 :: x12 :: x13 :: x14 :: x15 :: x16 :: x17 :: x18 :: x19 :: x20 :: x21 :: some o :: ρ) 22 o := rfl
theorem em22 {x0 x1 x2 x3 x4 x5 x6 x7 x8 x9 x10 x11 x12 x13 x14 x15 x16 x17 x18 x19 x20 x21 : Option O} {ρ : Store} : Em (x0 :: x1 :: x2 :: x3 :: x4 :: x5 :: x6 :: x7 :: x8 :: x9 :: x10 :: x11 :: x12 :: x13 :: x14 :: x15 :: x16 :: x17 :: x18 :: x19 :: x20 :: x21 :: none :: ρ) 22 := rfl
theorem fu22 {x0 x1 x2 x3 x4 x5 x6 x7 x8 x9 x10 x11 x12 x13 x14 x15 x16 x17 x18 x19 x20 x21 : Option O} {o : O} {ρ : Store} : Fu (x0 :: x1 :: x2 :: x3 :: x4 :: x5 :: x6 :: x7 :: x8 :: x9 :: x10 :: x11 :: x12 :: x13 :: x14 :: x15 :: x16 :: x17 :: x18 :: x19 :: x20 :: x21 :: some o :: ρ) 22 := ⟨_, rfl⟩
theorem st22 {x0 x1 x2 x3 x4 x5 x6 x7 x8 x9 x10 x11 x12 x13 x14 x15 x16 x17 x18 x19 x20 x21 : Option O} {x y : Option O} {ρ : Store} : St (x0 :: x1 :: x2 :: x3 :: x4 :: x5 :: x6 :: x7 :: x8 :: x9 :: x10 :: x11 :: x12 :: x13 :: x14 :: x15 :: x16 :: x17 :: x18 :: x19 :: x20 :: x21 :: x :: ρ) 22 y (x0 :: x1 :: x2 :: x3 :: x4 :: x5 :: x6 :: x7 :: x8 :: x9 :: x10 :: x11 :: x12 :: x13 :: x14 :: x15 :: x16 :: x17 :: x18 :: x19 :: x20 :: x21 :: y :: ρ) := ⟨by simp only [List.length_cons]; omega, rfl⟩
theorem at23 {x0 x1 x2 x3 x4 x5 x6 x7 x8 x9 x10 x11 x12 x13 x14 x15 x16 x17 x18 x19 x20 x21 x22 : Option O} {o : O} {ρ : Store} : At (x0 :: x1 :: x2 :: x3 :: x4 :: x5 :: x6 :: x7 :: x8 :: x9 :: x10 :: x11 :: x12 :: x13 :: x14 :: x15 :: x16 :: x17 :: x18 :: x19 :: x20 :: x21 :: x22 :: some o :: ρ) 23 o := rfl
theorem em23 {x0 x1 x2 x3 x4 x5 x6 x7 x8 x9 x10 x11 x12 x13 x14 x15 x16 x17 x18 x19 x20 x21 x22 : Option O} {ρ : Store} : Em (x0 :: x1 :: x2 :: x3 :: x4 :: x5 :: x6 :: x7 :: x8 :: x9 :: x10 :: x11 :: x12 :: x13 :: x14 :: x15 :: x16 :: x17 :: x18 :: x19 :: x20 :: x21 :: x22 :: none :: ρ) 23 := rfl
theorem fu23 {x0 x1 x2 x3 x4 x5 x6 x7 x8 x9 x10 x11 x12 x13 x14 x15 x16 x17 x18 x19 x20 x21 x22 : Option O} {o : O} {ρ : Store} : Fu (x0 :: x1 :: x2 :: x3 :: x4 :: x5 :: x6 :: x7 :: x8 :: x9 :: x10 :: x11 :: x12 :: x13 :: x14 :: x15 :: x16 :: x17 :: x18 :: x19 :: x20 :: x21 :: x22 :: some o :: ρ) 23 := ⟨_, rfl⟩
theorem st23 {x0 x1 x2 x3 x4 x5 x6 x7 x8 x9 x10 x11 x12 x13 x14 x15 x16 x17 x18 x19 x20 x21 x22 : Option O} {x y : Option O} {ρ : Store} : St (x0 :: x1 :: x2 :: x3 :: x4 :: x5 :: x6 :: x7 :: x8 :: x9 :: x10 :: x11 :: x12 :: x13 :: x14 :: x15 :: x16 :: x17 :: x18 :: x19 :: x20 :: x21 :: x22 :: x :: ρ) 23 y (x0 :: x1 :: x2 :: x3 :: x4 :: x5 :: x6 :: x7 :: x8 :: x9 :: x10 :: x11 :: x12 :: x13 :: x14 :: x15 :: x16 :: x17 :: x18 :: x19 :: x20 :: x21 :: x22 :: y :: ρ) := ⟨by simp only [List.length_cons]; omega, rfl⟩

section
variable {i j n : Nat} {ρ ρ' ρ1 ρ2 ρ3 : Store} {d e : D} {ds es : List D} {o x y z w : O} {os : List O} {g h k : aE} {od : Od} {ods : List Od} {rs : List Rv} {p q : aT} {b c : Bool} {f f' : O → O → Option O} {f1 : O → Option O} {lo hi : Option aE} {a a' : Option Int}
/-! operands -/
theorem eva_0 : EvA [] ρ [] ρ := rfl
theorem eva_p (h1 : Fu ρ i) (h2 : EvA ods ρ rs ρ') : EvA (.pl i :: ods) ρ (.p i :: rs) ρ' := by
  obtain ⟨o, ho⟩ := h1
  unfold EvA at h2 ⊢
  rw [evA, ho]
  simp only [h2, Res.bind]
theorem eva_x (h1 : Ev g ρ o ρ1) (h2 : EvA ods ρ1 rs ρ') : EvA (.ex g :: ods) ρ (.o o :: rs) ρ' := by
  unfold EvA Ev at *
  rw [evA, h1]
  simp only [h2, Res.bind]
theorem evo_0 : EvO [] ρ [] ρ := ⟨[], rfl, rfl⟩
theorem evo_p (h1 : Fu ρ i) (h2 : EvO ods ρ os ρ') (h3 : At ρ' i o) : EvO (.pl i :: ods) ρ (o :: os) ρ' := by
  obtain ⟨rs, e, r⟩ := h2
  refine ⟨.p i :: rs, eva_p h1 e, ?_⟩
  unfold At at h3
  rw [rsv, h3]
  simp only [r, Option.map_some]
theorem evo_x (h1 : Ev g ρ o ρ1) (h2 : EvO ods ρ1 os ρ') : EvO (.ex g :: ods) ρ (o :: os) ρ' := by
  obtain ⟨rs, e, r⟩ := h2
  refine ⟨.o o :: rs, eva_x h1 e, ?_⟩
  rw [rsv, r]
  rfl
theorem evs_0 : EvS [] ρ [] ρ := evo_0
theorem evs_x (h1 : Ev g ρ (.sh d) ρ1) (h2 : EvS ods ρ1 ds ρ') : EvS (.ex g :: ods) ρ (d :: ds) ρ' := evo_x h1 h2
theorem evs_p (h1 : Fu ρ i) (h2 : EvS ods ρ ds ρ') (h3 : At ρ' i (.sh d)) : EvS (.pl i :: ods) ρ (d :: ds) ρ' := evo_p h1 h2 h3
/-! values -/
theorem ev_var (h : At ρ i (.sh d)) : Ev (aVar i) ρ (.sh d) ρ := by
  unfold Ev aVar
  unfold At at h
  rw [h]
theorem ev_varO (h : At ρ i o) (ho : Own o) (hf : Fz o d) (s : St ρ i (some (.sh d)) ρ') : Ev (aVar i) ρ (.sh d) ρ' := by
  unfold Ev aVar
  unfold At at h
  unfold Fz at hf
  rw [h, s.2]
  cases o with
  | sh d => exact (ho d rfl).elim
  | lst os => simp only [hf]
  | dic os => simp only [hf]
  | dit os => simp only [hf]
  | obj c os => simp only [hf]
theorem ev_mv1 (h : At ρ i (.sh d)) : Ev (aMove i) ρ (.sh d) ρ := by
  unfold Ev aMove
  unfold At at h
  rw [h]
theorem ev_mvO (h : At ρ i o) (ho : Own o) (s : St ρ i none ρ') : Ev (aMove i) ρ o ρ' := by
  unfold Ev aMove
  unfold At at h
  rw [h, s.2]
  cases o with
  | sh d => exact (ho d rfl).elim
  | lst os => rfl
  | dic os => rfl
  | dit os => rfl
  | obj c os => rfl
theorem ev_c : Ev (aC d) ρ (.sh d) ρ := rfl
theorem ev_fz (h1 : Ev g ρ o ρ') (h2 : Fz o d) : Ev (aFz g) ρ (.sh d) ρ' := by
  unfold Ev Fz at *
  unfold aFz
  simp only [h1, Res.bind, h2]
theorem ev_op1 (h1 : EvO [od] ρ [x] ρ') (h2 : f1 x = some w) : Ev (aOp [od] (l1 f1)) ρ w ρ' := by
  obtain ⟨rs, e, r⟩ := h1
  unfold Ev aOp
  simp only [e, Res.bind, r, l1, h2]
theorem ev_op2 {od' : Od} (h1 : EvO [od, od'] ρ [x, y] ρ') (h2 : f x y = some w) : Ev (aOp [od, od'] (l2 f)) ρ w ρ' := by
  obtain ⟨rs, e, r⟩ := h1
  unfold Ev aOp
  simp only [e, Res.bind, r, l2, h2]
theorem ev_tup (h1 : EvS ods ρ ds ρ') (h2 : Sz (ds.length ≤ 16000000)) : Ev (aOp ods gTup) ρ (.sh (.tup ds)) ρ' := by
  obtain ⟨rs, e, r⟩ := h1
  unfold Sz at h2
  unfold Ev aOp
  simp only [e, Res.bind, r, gTup, shs_map, h2, if_true]
theorem ev_lst (h1 : EvS ods ρ ds ρ') (h2 : Sz (ds.length ≤ 16000000)) : Ev (aOp ods gLstS) ρ (oL ds) ρ' := by
  obtain ⟨rs, e, r⟩ := h1
  unfold Sz at h2
  unfold Ev aOp
  simp only [e, Res.bind, r, gLstS, shs_map, h2, if_true, oL]
theorem evp_0 : EvP none ρ none ρ := rfl
def Nl (t t' : Int) : Prop := t = t'
theorem nl_0 {t : Int} : Nl t t := rfl
theorem nl_a1 {k : Nat} : Nl ((k : Int) + 1) ((k + 1 : Nat) : Int) := by unfold Nl; omega
theorem nl_1a {k : Nat} : Nl (1 + (k : Int)) ((k + 1 : Nat) : Int) := by unfold Nl; omega
theorem nl_a2 {k : Nat} : Nl ((k : Int) + 2) ((k + 2 : Nat) : Int) := by unfold Nl; omega
theorem nl_an {k m : Nat} : Nl ((k : Int) + (m : Int)) ((k + m : Nat) : Int) := by unfold Nl; omega
theorem evp_1 {t t' : Int} (h : Ev g ρ (.sh (.int t)) ρ') (ht : Nl t t') : EvP (some g) ρ (some t') ρ' := by
  subst ht
  unfold EvP aP
  unfold Ev at h
  simp only [h, Res.bind]
theorem ev_slp {sl : O → Option Int → Option Int → Option O} (h0 : Fu ρ i) (h1 : EvP lo ρ a ρ2) (h2 : EvP hi ρ2 a' ρ3) (h3 : At ρ3 i o) (h4 : sl o a a' = some w) : Ev (aSl (.pl i) lo hi sl) ρ w ρ3 := by
  have e := eva_p h0 (eva_0 (ρ := ρ))
  unfold EvA at e
  unfold EvP at h1 h2
  unfold At at h3
  unfold Ev aSl
  simp only [e, Res.bind, h1, h2, rsv, h3, Option.map_some, h4]
theorem ev_slx {sl : O → Option Int → Option Int → Option O} (h0 : Ev g ρ o ρ1) (h1 : EvP lo ρ1 a ρ2) (h2 : EvP hi ρ2 a' ρ3) (h4 : sl o a a' = some w) : Ev (aSl (.ex g) lo hi sl) ρ w ρ3 := by
  have e := eva_x h0 (eva_0 (ρ := ρ1))
  unfold EvA at e
  unfold EvP at h1 h2
  unfold Ev aSl
  simp only [e, Res.bind, h1, h2, rsv, Option.map_some, h4]
theorem ev_newD : Ev aNewD ρ (.dic []) ρ := rfl
theorem ev_newT : Ev aNewT ρ (.dit []) ρ := rfl
/-! tests -/
theorem evt_b (h : Ev g ρ (.sh (.bl b)) ρ') : EvT (aB g) ρ b ρ' := by
  unfold EvT aB
  unfold Ev at h
  simp only [h, Res.bind]
theorem evt_yes : EvT aYes ρ true ρ := rfl
theorem evt_tru (h1 : EvO [od] ρ [o] ρ') (h2 : Fz o d) (h3 : truD d = some b) : EvT (aTru od) ρ b ρ' := by
  obtain ⟨rs, e, r⟩ := h1
  unfold Fz at h2
  unfold EvT aTru
  simp only [e, Res.bind, r, h2, h3]
theorem evt_not (h : EvT p ρ b ρ') : EvT (aNot p) ρ (!b) ρ' := by
  unfold EvT at *
  unfold aNot
  simp only [h, Res.bind]
def AndR (b : Bool) (q : aT) (ρ : Store) (c : Bool) (ρ' : Store) : Prop := (if b = true then q ρ else .ok false ρ) = .ok c ρ'
def OrR (b : Bool) (q : aT) (ρ : Store) (c : Bool) (ρ' : Store) : Prop := (if b = true then .ok true ρ else q ρ) = .ok c ρ'
def AndV (b : Bool) (q : aE) (ρ : Store) (c : O) (ρ' : Store) : Prop := (if b = true then q ρ else .ok (.sh (.bl false)) ρ) = .ok c ρ'
def OrV (b : Bool) (q : aE) (ρ : Store) (c : O) (ρ' : Store) : Prop := (if b = true then .ok (.sh (.bl true)) ρ else q ρ) = .ok c ρ'
def IfV (b : Bool) (g h : aE) (ρ : Store) (c : O) (ρ' : Store) : Prop := (if b = true then g ρ else h ρ) = .ok c ρ'
theorem evt_and (h1 : EvT p ρ b ρ1) (h2 : AndR b q ρ1 c ρ2) : EvT (aAnd p q) ρ c ρ2 := by
  unfold EvT at *
  unfold aAnd
  simp only [h1, Res.bind]
  exact h2
theorem evt_or (h1 : EvT p ρ b ρ1) (h2 : OrR b q ρ1 c ρ2) : EvT (aOr p q) ρ c ρ2 := by
  unfold EvT at *
  unfold aOr
  simp only [h1, Res.bind]
  exact h2
theorem ev_andv (h1 : EvT p ρ b ρ1) (h2 : AndV b g ρ1 o ρ2) : Ev (aAndV p g) ρ o ρ2 := by
  unfold EvT at *
  unfold Ev aAndV
  simp only [h1, Res.bind]
  exact h2
theorem ev_orv (h1 : EvT p ρ b ρ1) (h2 : OrV b g ρ1 o ρ2) : Ev (aOrV p g) ρ o ρ2 := by
  unfold EvT at *
  unfold Ev aOrV
  simp only [h1, Res.bind]
  exact h2
theorem ev_tv (h1 : EvT p ρ b ρ1) : Ev (aTV p) ρ (.sh (.bl b)) ρ1 := by
  unfold EvT at *
  unfold Ev aTV
  simp only [h1, Res.bind]
theorem ev_if (h1 : EvT p ρ b ρ1) (h2 : IfV b g h ρ1 o ρ2) : Ev (aIfE p g h) ρ o ρ2 := by
  unfold EvT at *
  unfold Ev aIfE
  simp only [h1, Res.bind]
  exact h2
theorem andr_f (hb : b = false) : AndR b q ρ false ρ := by rw [AndR, hb]; rfl
theorem andr_t (hb : b = true) (h : EvT q ρ c ρ') : AndR b q ρ c ρ' := by rw [AndR, hb]; exact h
theorem andr_g (h : b = true → EvT q ρ c ρ) : AndR b q ρ (b && c) ρ := by
  cases b with
  | true => exact h rfl
  | false => rfl
theorem orr_t (hb : b = true) : OrR b q ρ true ρ := by rw [OrR, hb]; rfl
theorem orr_f (hb : b = false) (h : EvT q ρ c ρ') : OrR b q ρ c ρ' := by rw [OrR, hb]; exact h
theorem orr_g (h : b = false → EvT q ρ c ρ) : OrR b q ρ (b || c) ρ := by
  cases b with
  | false => exact h rfl
  | true => rfl
theorem andv_f (hb : b = false) : AndV b g ρ (.sh (.bl false)) ρ := by rw [AndV, hb]; rfl
theorem andv_t (hb : b = true) (h : Ev g ρ o ρ') : AndV b g ρ o ρ' := by rw [AndV, hb]; exact h
theorem andv_g (h : b = true → Ev g ρ (.sh (.bl c)) ρ) : AndV b g ρ (.sh (.bl (b && c))) ρ := by
  cases b with
  | true => exact h rfl
  | false => rfl
theorem orv_t (hb : b = true) : OrV b g ρ (.sh (.bl true)) ρ := by rw [OrV, hb]; rfl
theorem orv_f (hb : b = false) (h : Ev g ρ o ρ') : OrV b g ρ o ρ' := by rw [OrV, hb]; exact h
theorem orv_g (h : b = false → Ev g ρ (.sh (.bl c)) ρ) : OrV b g ρ (.sh (.bl (b || c))) ρ := by
  cases b with
  | false => exact h rfl
  | true => rfl
theorem ifv_t (hb : b = true) (h1 : Ev g ρ o ρ') : IfV b g h ρ o ρ' := by rw [IfV, hb]; exact h1
theorem ifv_f (hb : b = false) (h1 : Ev h ρ o ρ') : IfV b g h ρ o ρ' := by rw [IfV, hb]; exact h1
theorem ifv_i {s t : Int} (h1 : b = true → Ev g ρ (.sh (.int s)) ρ) (h2 : b = false → Ev h ρ (.sh (.int t)) ρ) : IfV b g h ρ (.sh (.int (if b = true then s else t))) ρ := by
  cases b with
  | true => exact h1 rfl
  | false => exact h2 rfl
theorem ifv_s {s t : Str} (h1 : b = true → Ev g ρ (.sh (.str s)) ρ) (h2 : b = false → Ev h ρ (.sh (.str t)) ρ) : IfV b g h ρ (.sh (.str (if b = true then s else t))) ρ := by
  cases b with
  | true => exact h1 rfl
  | false => exact h2 rfl
theorem ifv_d (h1 : b = true → Ev g ρ (.sh d) ρ) (h2 : b = false → Ev h ρ (.sh e) ρ) : IfV b g h ρ (.sh (if b = true then d else e)) ρ := by
  cases b with
  | true => exact h1 rfl
  | false => exact h2 rfl
/-- a op b op c -/
def ChR (b : Bool) (f' : O → O → Option O) (y : O) (k : aE) (ρ : Store) (w : O) (ρ' : Store) : Prop := if b = true then ∃ z, k ρ = .ok z ρ' ∧ f' y z = some w else w = .sh (.bl false) ∧ ρ' = ρ
theorem ev_chain (h1 : Ev g ρ x ρ1) (h2 : Ev h ρ1 y ρ2) (h3 : f x y = some (.sh (.bl b))) (h4 : ChR b f' y k ρ2 w ρ3) : Ev (aChain f f' g h k) ρ w ρ3 := by
  unfold Ev at *
  unfold aChain
  simp only [h1, h2, Res.bind, h3]
  unfold ChR at h4
  cases b with
  | true =>
    rw [if_pos rfl] at h4
    obtain ⟨z, e, e2⟩ := h4
    simp only [e, e2]
  | false =>
    rw [if_neg (by simp)] at h4
    rw [h4.1, h4.2]
theorem ch_f (hb : b = false) : ChR b f' y k ρ (.sh (.bl false)) ρ := by rw [ChR, hb]; simp
theorem ch_t (hb : b = true) (h1 : Ev k ρ z ρ') (h2 : f' y z = some w) : ChR b f' y k ρ w ρ' := by rw [ChR, hb]; exact ⟨z, h1, h2⟩
theorem ch_g (h1 : b = true → Ev k ρ z ρ) (h2 : b = true → f' y z = some (.sh (.bl c))) : ChR b f' y k ρ (.sh (.bl (b && c))) ρ := by
  cases b with
  | true => exact ⟨z, h1 rfl, h2 rfl⟩
  | false => simp [ChR]
/-! calls -/
theorem tak_0 : Tak ρ [] [] ρ := rfl
theorem tak_o (h : Tak ρ rs os ρ') : Tak ρ (.o o :: rs) (o :: os) ρ' := by
  unfold Tak at *
  rw [tak, h]
  rfl
theorem tak_s (h0 : At ρ i (.sh d)) (h : Tak ρ rs os ρ') : Tak ρ (.p i :: rs) (.sh d :: os) ρ' := by
  unfold Tak At at *
  rw [tak, h0]
  simp only [h, Option.map_some]
theorem tak_p (h0 : At ρ i o) (ho : Own o) (h1 : St ρ i none ρ1) (h : Tak ρ1 rs os ρ') : Tak ρ (.p i :: rs) (o :: os) ρ' := by
  unfold Tak At at *
  rw [tak, h0]
  rw [h1.2] at h
  cases o with
  | sh d => exact (ho d rfl).elim
  | lst os => simp only [h, Option.map_some]
  | dic os => simp only [h, Option.map_some]
  | dit os => simp only [h, Option.map_some]
  | obj c os => simp only [h, Option.map_some]
theorem giv_0 : Giv ρ [] [] ρ := ⟨rfl, rfl⟩
theorem giv_o (h : Giv ρ rs os ρ') : Giv ρ (.o x :: rs) (y :: os) ρ' := ⟨by simp [h.1], h.2⟩
theorem giv_s (h0 : Fu ρ i) (h : Giv ρ rs os ρ') : Giv ρ (.p i :: rs) (y :: os) ρ' := by
  obtain ⟨o, ho⟩ := h0
  refine ⟨by simp [h.1], ?_⟩
  rw [giv, ho]
  exact h.2
theorem giv_p (h0 : Em ρ i) (h1 : St ρ i (some y) ρ1) (h : Giv ρ1 rs os ρ') : Giv ρ (.p i :: rs) (y :: os) ρ' := by
  refine ⟨by simp [h.1], ?_⟩
  unfold Em at h0
  rw [giv, h0]
  simp only
  rw [← h1.2]
  exact h.2
theorem tak_len : ∀ {rs : List Rv} {ρ ρ' : Store} {os : List O}, Tak ρ rs os ρ' → rs.length = os.length
  | [], ρ, ρ', os, h => by
    unfold Tak at h
    rw [tak] at h
    cases h
    rfl
  | .o o :: rs, ρ, ρ', os, h => by
    unfold Tak at h
    rw [tak, Option.map_eq_some_iff] at h
    obtain ⟨⟨os', ρ2⟩, e, z⟩ := h
    cases z
    simp [tak_len (rs := rs) e]
  | .p i :: rs, ρ, ρ', os, h => by
    unfold Tak at h
    rw [tak] at h
    split at h
    · rw [Option.map_eq_some_iff] at h
      obtain ⟨⟨os', ρ2⟩, e, z⟩ := h
      cases z
      simp [tak_len (rs := rs) e]
    · rw [Option.map_eq_some_iff] at h
      obtain ⟨⟨os', ρ2⟩, e, z⟩ := h
      cases z
      simp [tak_len (rs := rs) e]
    · cases h
def Lis {α : Type} (rs : List α) (n : Nat) : Prop := rs.length = n
theorem lis_0 {α : Type} : Lis ([] : List α) 0 := rfl
theorem lis_s {α : Type} {r : α} {rs : List α} (h : Lis rs n) : Lis (r :: rs) (n + 1) := by unfold Lis at *; simp [h]
def Apd (os : List O) (es : List D) (as : List O) : Prop := os ++ es.map O.sh = as
theorem apd_0 : Apd os [] os := by simp [Apd]
theorem apd_1 : Apd [] (e :: es) (.sh e :: (es.map O.sh)) := rfl
theorem apd_n {as : List O} (h : Apd [] es as) : Apd [] (e :: es) (.sh e :: as) := by unfold Apd at *; rw [← h]; rfl
theorem apd_s {as : List O} (h : Apd os es as) : Apd (o :: os) es (o :: as) := by unfold Apd at *; rw [← h]; rfl
theorem ev_call {den : aF} {os' : List O} (h1 : EvA ods ρ rs ρ1) (h2 : Tak ρ1 rs os ρ2) (h3 : den os = .ret o os') (h4 : Giv ρ2 rs os' ρ3) (hn : Lis rs n) : Ev (aCall n ods [] den) ρ o ρ3 := by
  have l1 := tak_len h2
  have l2 := h4.1
  unfold Lis at hn
  unfold EvA at h1
  unfold Tak at h2
  unfold Ev aCall
  simp only [h1, Res.bind, h2, List.length_nil, Nat.add_zero, List.map_nil, List.append_nil, h3]
  rw [if_pos (by omega), if_pos (by omega), h4.2]
def GivD (ρ : Store) (rs : List Rv) (os : List O) (ρ' : Store) : Prop := giv ρ rs os = ρ'
theorem givd_0 {os : List O} : GivD ρ [] os ρ := by unfold GivD; cases os <;> rfl
theorem givd_o (h : GivD ρ rs os ρ') : GivD ρ (.o x :: rs) (y :: os) ρ' := h
theorem givd_s (h0 : Fu ρ i) (h : GivD ρ rs os ρ') : GivD ρ (.p i :: rs) (y :: os) ρ' := by
  obtain ⟨o, ho⟩ := h0
  unfold GivD
  rw [giv, ho]
  exact h
theorem givd_p (h0 : Em ρ i) (h1 : St ρ i (some y) ρ1) (h : GivD ρ1 rs os ρ') : GivD ρ (.p i :: rs) (y :: os) ρ' := by
  unfold Em at h0
  unfold GivD
  rw [giv, h0]
  simp only
  rw [← h1.2]
  exact h
theorem ev_callD {den : aF} {os' as : List O} (h1 : EvA ods ρ rs ρ1) (h2 : Tak ρ1 rs os ρ2) (ha : Apd os es as) (h3 : den as = .ret o os') (hl : Lis os' n) (hm : Lis as n) (h4 : GivD ρ2 rs os' ρ3) : Ev (aCall n ods es den) ρ o ρ3 := by
  have l1 := tak_len h2
  unfold Lis at hl hm
  unfold Apd at ha
  unfold EvA at h1
  unfold Tak at h2
  unfold GivD at h4
  unfold Ev aCall
  subst ha
  simp only [h1, Res.bind, h2, h3]
  rw [if_pos (by simpa using hm), if_pos hl, h4]
/-! methods of a name's own list -/
theorem kindO_L : kindO (oL ds) = "list" := rfl
theorem ev_meth {T : String} {m : O → List O → Option (O × O)} {o' : O} (h1 : At ρ i o) (hT : kindO o = T) (h2 : EvA ods ρ rs ρ1) (h3 : At ρ1 i x) (hr : rsv (ρ1.set i none) rs = some os) (hf : m x os = some (o', w)) (h5 : St ρ1 i (some o') ρ2) : Ev (aMeth T i ods m) ρ w ρ2 := by
  unfold At at h1 h3
  unfold EvA at h2
  unfold Ev aMeth
  rw [h1]
  simp only [hT, if_true, h2, Res.bind, h3, hr, hf]
  rw [h5.2]
theorem append_eq (h4 : ds.length < 16000000) : fAppend (oL ds) [.sh d] = some (oL (ds ++ [d]), .sh .non) := by
  unfold oL fAppend
  simp only [List.length_map]
  rw [if_pos h4, List.map_append]
  rfl
theorem ev_append (h1 : At ρ i (oL es)) (h2 : Ev g ρ (.sh d) ρ1) (h3 : At ρ1 i (oL ds)) (h4 : Sz (ds.length < 16000000)) (h5 : St ρ1 i (some (oL (ds ++ [d]))) ρ2) : Ev (aMeth "list" i [.ex g] fAppend) ρ (.sh .non) ρ2 :=
  ev_meth h1 rfl (eva_x h2 eva_0) h3 rfl (append_eq h4) h5
theorem ev_pop (h1 : At ρ i (oL ds)) (h2 : ds.getLast? = some d) (h5 : St ρ i (some (oL ds.dropLast)) ρ2) : Ev (aMeth "list" i [] fPop) ρ (.sh d) ρ2 := by
  unfold At at h1
  have e := eva_0 (ρ := ρ)
  unfold EvA at e
  unfold Ev aMeth
  rw [h1]
  simp only [kindO_L, if_true, e, Res.bind, h1, rsv, fPop, oL, List.length_map]
  rw [List.getElem?_map, ← List.getLast?_eq_getElem?, h2, h5.2, oL, List.map_dropLast]
  rfl
theorem eraseIdx_sh : ∀ (ds : List D) (k : Nat), (ds.map O.sh).eraseIdx k = (ds.eraseIdx k).map O.sh
  | [], k => by simp
  | d :: ds, 0 => by simp
  | d :: ds, k + 1 => by simp [eraseIdx_sh ds k]
theorem seqIx {k n : Nat} (h : k < n) : seqIndex? (k : Int) n = some k := by
  unfold seqIndex?
  have h1 : ¬ ((k : Int) < 0) := by omega
  have h2 : ((decide ((0 : Int) ≤ k) && decide ((k : Int) < n)) = true) := by simp; omega
  simp only [if_neg h1]
  rw [if_pos h2]
  simp
theorem popAt_b {ds : List D} {d : D} {k : Nat} (hk : ds[k]? = some d) (h4 : ds.length ≤ 1000000) : fPopAt (.lst (ds.map O.sh)) [.sh (.int (k : Int))] = some (.lst ((ds.eraseIdx k).map O.sh), .sh d) := by
  have hl := (List.getElem?_eq_some_iff.mp hk).1
  have sx : seqIndex? (k : Int) (ds.map O.sh).length = some k := by
    rw [List.length_map]
    exact seqIx hl
  have h2 : (ds.map O.sh)[k]? = some (.sh d) := by rw [List.getElem?_map, hk]; rfl
  have c : (-(2 ^ 63) ≤ (k : Int) ∧ (k : Int) < 2 ^ 63) := by constructor <;> omega
  unfold fPopAt
  simp only [sx, h2]
  rw [if_pos c, eraseIdx_sh]
theorem popAt_eq {k : Nat} (hk : ds[k]? = some d) (h4 : ds.length ≤ 1000000) : fPopAt (oL ds) [.sh (.int (k : Int))] = some (oL (ds.eraseIdx k), .sh d) := by
  unfold oL
  exact popAt_b hk h4
theorem ev_popAt {k : Nat} {t : Int} (h1 : At ρ i (oL es)) (h2 : Ev g ρ (.sh (.int t)) ρ1) (h3 : At ρ1 i (oL ds)) (ht : t = (k : Int)) (hk : ds[k]? = some d) (h4 : Sz (ds.length ≤ 1000000)) (h5 : St ρ1 i (some (oL (ds.eraseIdx k))) ρ2) : Ev (aMeth "list" i [.ex g] fPopAt) ρ (.sh d) ρ2 := by
  subst ht
  exact ev_meth h1 rfl (eva_x h2 eva_0) h3 rfl (popAt_eq hk h4) h5
end
end Den
end
section
/-! Den, part BB: the rules for what a for walks, for comprehensions, for statements. -/
namespace Den
open PySem L2
def Clr (vs : List Nat) (σ ρ : Store) : Prop := wipeS σ vs = ρ
theorem clr_0 {ρ : Store} : Clr [] ρ ρ := rfl
theorem clr_c {v : Nat} {vs : List Nat} {σ ρ1 ρ : Store} (h : Clr vs σ ρ1) (h2 : St ρ1 v none ρ) : Clr (v :: vs) σ ρ := by
  unfold Clr at *
  rw [wipeS, h, h2.2]
theorem set_back (ρ : Store) (v : Nat) : (ρ.set v none).set v (ρ[v]?).join = ρ := by
  apply List.ext_getElem?
  intro j
  by_cases e : v = j
  · subst e
    by_cases hv : v < ρ.length
    · rw [List.set_set, List.getElem?_set_self hv, List.getElem?_eq_getElem hv]
      rfl
    · rw [List.getElem?_eq_none (by simp; omega), List.getElem?_eq_none (by omega)]
  · rw [List.getElem?_set_ne e, List.getElem?_set_ne e]
theorem rest_wipe (ρ : Store) : ∀ vs : List Nat, restS ρ vs (wipeS ρ vs) = ρ
  | [] => rfl
  | v :: vs => by
    rw [restS, wipeS, set_back]
    exact rest_wipe ρ vs
/-- the items as they are told by -/
def Mp {α : Type} (ds : List D) (xs : List α) (em : α → D) : Prop := ds = xs.map em
theorem mp_map {α : Type} {xs : List α} {em : α → D} : Mp (xs.map em) xs em := rfl
theorem mp_id {ds : List D} : Mp ds ds (fun d => d) := by simp [Mp]
theorem mp_rng0 {n : Nat} : Mp (rngD 0 n) (List.range n) (fun i => .int (i : Int)) := by simp [Mp, rngD]
theorem mp_rng {lo : Int} {n : Nat} : Mp (rngD lo n) (List.range n) (fun i => .int (lo + (i : Int))) := rfl
theorem mp_zip {α β : Type} {ds es : List D} {xs : List α} {ys : List β} {em : α → D} {en : β → D} (h1 : Mp ds xs em) (h2 : Mp es ys en) : Mp (zipD ds es) (xs.zip ys) (fun p => .tup [em p.1, en p.2]) := by
  unfold Mp at *
  subst h1 h2
  unfold zipD
  rw [List.zip_map, List.map_map]
  rfl
theorem mp_zip_self {ds : List D} : Mp (zipD ds ds) ds (fun d => .tup [d, d]) := by
  unfold Mp zipD
  induction ds with
  | nil => rfl
  | cons d ds ih => rw [List.zip_cons_cons, List.map_cons, List.map_cons, ih]
theorem mp_enum {α : Type} {ds : List D} {xs : List α} {em : α → D} (h1 : Mp ds xs em) : Mp (enumD ds) xs.zipIdx (fun p => .tup [.int (p.2 : Int), em p.1]) := by
  unfold Mp at *
  subst h1
  unfold enumD
  rw [List.mapIdx_eq_zipIdx_map, List.zipIdx_map, List.map_map]
  rfl
section
variable {i j n : Nat} {ρ ρ' ρ1 ρ2 ρ3 ρw : Store} {d e : D} {ds es : List D} {o x y z w : O} {os : List O} {g h k : aE} {od oe : Od} {ods : List Od} {rs : List Rv} {p q : aT} {b c : Bool} {src : aI} {vs : List Nat} {tg : aG} {tgs : List aG} {tt : aT}
/-! what a for walks -/
theorem evi_tup (h : Ev g ρ (.sh (.tup ds)) ρ') : EvI (aItems g) ρ ds ρ' := by
  unfold EvI aItems; unfold Ev at h; simp only [h, Res.bind, itemsD]
theorem evi_lst (h : Ev g ρ (.sh (.lst ds)) ρ') : EvI (aItems g) ρ ds ρ' := by
  unfold EvI aItems; unfold Ev at h; simp only [h, Res.bind, itemsD]
theorem evi_wls (h : Ev g ρ (.sh (.wls ds)) ρ') : EvI (aItems g) ρ ds ρ' := by
  unfold EvI aItems; unfold Ev at h; simp only [h, Res.bind, itemsD]
def ItR (o : O) (ds : List D) : Prop := itemsD o = some ds
theorem itr_t : ItR (.sh (.tup ds)) ds := rfl
theorem itr_l : ItR (.sh (.lst ds)) ds := rfl
theorem itr_w : ItR (.sh (.wls ds)) ds := rfl
theorem itr_s {a : Str} : ItR (.sh (.str a)) (a.cps.toList.map fun c => .str ⟨#[c]⟩) := rfl
theorem evi_it (h : Ev g ρ o ρ') (h2 : ItR o ds) : EvI (aItems g) ρ ds ρ' := by
  unfold EvI aItems; unfold Ev at h; unfold ItR at h2; simp only [h, Res.bind, h2]
theorem evi_rng1 {t : Int} (h : Ev g ρ (.sh (.int t)) ρ') (h2 : Sz (-1000000000 ≤ t ∧ t ≤ 1000000000)) : EvI (aRng1 g) ρ (rngD 0 t.toNat) ρ' := by
  unfold EvI aRng1; unfold Ev at h; unfold Sz at h2; simp only [h, Res.bind]; rw [if_pos h2]
theorem evi_rng1n (h : Ev g ρ (.sh (.int (n : Int))) ρ') (h2 : Sz (n ≤ 1000000000)) : EvI (aRng1 g) ρ (rngD 0 n) ρ' := by
  have := evi_rng1 h ⟨by omega, by unfold Sz at h2; omega⟩
  rw [Int.toNat_natCast] at this
  exact this
def Rn (t : Int) (n : Nat) : Prop := t.toNat = n ∧ -1000000000 ≤ t
theorem rn_nat {n : Nat} : Rn (n : Int) n := ⟨Int.toNat_natCast n, by omega⟩
theorem rn_lit {n : Nat} : Rn (OfNat.ofNat n) n := ⟨Int.toNat_natCast n, by show -1000000000 ≤ (n : Int); omega⟩
theorem rn_of {t : Int} (h : Sz (0 ≤ t)) : Rn t t.toNat := ⟨rfl, by have := h.go; omega⟩
theorem evi_rng {t : Int} (h : Ev g ρ (.sh (.int t)) ρ') (hn : Rn t n) (h2 : Sz (n ≤ 1000000000)) : EvI (aRng1 g) ρ (rngD 0 n) ρ' := by
  have hb := h2.go
  obtain ⟨rfl, hm⟩ := hn
  exact evi_rng1 h ⟨hm, by omega⟩
theorem evi_rng2 {s t : Int} (h : EvO [od, oe] ρ [.sh (.int s), .sh (.int t)] ρ') (h2 : Sz ((-1000000000 ≤ s ∧ s ≤ 1000000000) ∧ -1000000000 ≤ t ∧ t ≤ 1000000000)) : EvI (aRng2 od oe) ρ (rngD s (t - s).toNat) ρ' := by
  obtain ⟨rs, e, r⟩ := h
  unfold EvI aRng2; unfold Sz at h2; simp only [e, Res.bind, r]; rw [if_pos h2]
theorem evi_rngD {s t : Int} (h : EvO [od, oe] ρ [.sh (.int s), .sh (.int t)] ρ') (h2 : Sz ((-1000000000 ≤ s ∧ s ≤ 1000000000) ∧ -1000000000 ≤ t ∧ t ≤ 1000000000)) : EvI (aRngD od oe) ρ (dwnD s (s - t).toNat) ρ' := by
  obtain ⟨rs, e, r⟩ := h
  unfold EvI aRngD; unfold Sz at h2; simp only [e, Res.bind, r]; rw [if_pos h2]
theorem evi_zipT (h1 : Ev g ρ (.sh (.tup ds)) ρ1) (h2 : Ev h ρ1 (.sh (.tup es)) ρ2) : EvI (aZip g h) ρ (zipD ds es) ρ2 := by
  unfold EvI aZip; unfold Ev at h1 h2; simp only [h1, h2, Res.bind]
theorem evi_zipL (h1 : Ev g ρ (.sh (.lst ds)) ρ1) (h2 : Ev h ρ1 (.sh (.lst es)) ρ2) : EvI (aZip g h) ρ (zipD ds es) ρ2 := by
  unfold EvI aZip; unfold Ev at h1 h2; simp only [h1, h2, Res.bind]
def ZipR (o u : O) (ds : List D) : Prop := (match o, u with
  | .sh (.lst xs), .sh (.lst ys) => some (zipD xs ys)
  | .sh (.tup xs), .sh (.tup ys) => some (zipD xs ys)
  | _, _ => none) = some ds
theorem zr_t : ZipR (.sh (.tup ds)) (.sh (.tup es)) (zipD ds es) := rfl
theorem zr_l : ZipR (.sh (.lst ds)) (.sh (.lst es)) (zipD ds es) := rfl
theorem evi_zip (h1 : Ev g ρ x ρ1) (h2 : Ev h ρ1 y ρ2) (h3 : ZipR x y ds) : EvI (aZip g h) ρ ds ρ2 := by
  unfold ZipR at h3
  split at h3
  · simp only [Option.some.injEq] at h3; subst h3; exact evi_zipL h1 h2
  · simp only [Option.some.injEq] at h3; subst h3; exact evi_zipT h1 h2
  · cases h3
theorem evi_enum (h1 : Ev g ρ (.sh (.lst ds)) ρ1) : EvI (aEnum g) ρ (enumD ds) ρ1 := by
  unfold EvI aEnum; unfold Ev at h1; simp only [h1, Res.bind]
/-! targets -/
theorem tg_n (h : St ρ i (some (.sh d)) ρ') : Tg (aN i) d ρ ρ' := by
  unfold Tg aN; rw [if_pos h.1, h.2]
theorem tg_u (h : Tgs tgs ds ρ ρ') : Tg (aUnp tgs) (.tup ds) ρ ρ' := h
theorem tg_l (h : Tgs tgs ds ρ ρ') : Tg (aUnp tgs) (.lst ds) ρ ρ' := h
theorem tgs_0 : Tgs [] [] ρ ρ := rfl
theorem tgs_c (h1 : Tg tg d ρ ρ1) (h2 : Tgs tgs ds ρ1 ρ') : Tgs (tg :: tgs) (d :: ds) ρ ρ' := by
  unfold Tgs Tg at *
  rw [aGs, h1]
  exact h2
/-! comprehensions -/
theorem lcL_go {α : Type} {em : α → D} {pt : α → Bool} {σ : α → Store} {gn : α → O} {fn : α → D} : ∀ {xs : List α}, (∀ x ∈ xs, Tg tg (em x) ρw (σ x)) → (∀ x ∈ xs, EvT tt (σ x) (pt x) (σ x)) → (∀ x ∈ xs, pt x = true → Ev g (σ x) (gn x) (σ x)) → (∀ x, Fz (gn x) (fn x)) → (∀ x ∈ xs, Clr vs (σ x) ρw) →
    lcL vs tg tt g (xs.map em) ρw = .ok ((xs.filter pt).map fn) ρw
  | [], _, _, _, _, _ => rfl
  | a :: xs, h1, h2, h3, h4, h5 => by
    have ih := lcL_go (xs := xs) (fun x m => h1 x (by simp [m])) (fun x m => h2 x (by simp [m])) (fun x m => h3 x (by simp [m])) h4 (fun x m => h5 x (by simp [m]))
    have e1 := h1 a (by simp)
    have e2 := h2 a (by simp)
    have e3 := h3 a (by simp)
    have e5 := h5 a (by simp)
    unfold Tg at e1
    unfold EvT at e2
    unfold Ev at e3
    unfold Clr at e5
    rw [List.map_cons, lcL, e1]
    simp only [e2, Res.bind]
    cases hp : pt a with
    | true =>
      rw [if_pos rfl, e3 hp]
      simp only [Res.bind]
      rw [e5, ih, List.filter_cons, hp]
      have := h4 a
      unfold Fz at this
      simp [this]
    | false =>
      rw [if_neg (by simp), e5, ih, List.filter_cons, hp]
      rfl
theorem ev_lc {α : Type} {xs : List α} {em : α → D} {pt : α → Bool} {σ : α → Store} {gn : α → O} {fn : α → D} (hs : EvI src ρ ds ρ1) (hm : Mp ds xs em) (hl : Sz (xs.length ≤ 16000000)) (hw : Clr vs ρ1 ρw) (h1 : ∀ x ∈ xs, Tg tg (em x) ρw (σ x)) (h2 : ∀ x ∈ xs, EvT tt (σ x) (pt x) (σ x)) (h3 : ∀ x ∈ xs, pt x = true → Ev g (σ x) (gn x) (σ x)) (h4 : ∀ x, Fz (gn x) (fn x)) (h5 : ∀ x ∈ xs, Clr vs (σ x) ρw) :
    Ev (aLc src vs tg tt g) ρ (oL ((xs.filter pt).map fn)) ρ1 := by
  unfold Sz at hl
  unfold Mp at hm
  unfold Clr at hw
  unfold EvI at hs
  subst hm
  unfold Ev aLc
  simp only [hs, Res.bind, List.length_map]
  rw [if_pos hl, hw, lcL_go h1 h2 h3 h4 h5]
  simp only
  rw [← hw, rest_wipe]
  rfl
theorem filter_yes {α : Type} (xs : List α) : xs.filter (fun _ => true) = xs := List.filter_eq_self.mpr fun _ _ => rfl
theorem ev_lcY {α : Type} {xs : List α} {em : α → D} {σ : α → Store} {gn : α → O} {fn : α → D} (hs : EvI src ρ ds ρ1) (hm : Mp ds xs em) (hl : Sz (xs.length ≤ 16000000)) (hw : Clr vs ρ1 ρw) (h1 : ∀ x ∈ xs, Tg tg (em x) ρw (σ x)) (h3 : ∀ x ∈ xs, Ev g (σ x) (gn x) (σ x)) (h4 : ∀ x, Fz (gn x) (fn x)) (h5 : ∀ x ∈ xs, Clr vs (σ x) ρw) :
    Ev (aLc src vs tg aYes g) ρ (oL (xs.map fn)) ρ1 := by
  have := ev_lc (pt := fun _ => true) hs hm hl hw h1 (fun x _ => evt_yes) (fun x m _ => h3 x m) h4 h5
  rw [filter_yes] at this
  exact this
/-! ### statements -/
def Pw (K : Out → Prop) (o : Out) : Prop := K o
variable {K : Out → Prop} {r s t : aS}
theorem pw_as (h : Pw K (sSeq s (sSeq t r) ρ)) : Pw K (sSeq (sSeq s t) r ρ) := by
  have e : sSeq (sSeq s t) r ρ = sSeq s (sSeq t r) ρ := by
    unfold sSeq
    cases s ρ <;> rfl
  rw [e]
  exact h
theorem pw_end (s : aS) (h : Pw K (sSeq s sNext ρ)) : Pw K (s ρ) := by
  have e : sSeq s sNext ρ = s ρ := by
    unfold sSeq sNext
    cases s ρ <;> rfl
  rw [e] at h
  exact h
theorem pw_nx (h : Pw K (.nx ρ)) : Pw K (sNext ρ) := h
theorem pw_brk (h : Pw K (.brk ρ)) : Pw K (sBrk ρ) := h
theorem pw_ct (h : Pw K (.ct ρ)) : Pw K (sCt ρ) := h
theorem pws_nx (h : Pw K (r ρ)) : Pw K (sSeq sNext r ρ) := h
theorem pws_brk (h : Pw K (.brk ρ)) : Pw K (sSeq sBrk r ρ) := h
theorem pws_ct (h : Pw K (.ct ρ)) : Pw K (sSeq sCt r ρ) := h
theorem pw_ret (h1 : Ev g ρ o ρ1) (h : Pw K (.ret o ρ1)) : Pw K (sRet g ρ) := by
  unfold sRet; unfold Ev at h1; rw [h1]; exact h
theorem pws_ret (h1 : Ev g ρ o ρ1) (h : Pw K (.ret o ρ1)) : Pw K (sSeq (sRet g) r ρ) := by
  unfold sSeq sRet; unfold Ev at h1; rw [h1]; exact h
theorem pw_retX {x : Xn} (h1 : EvX g ρ x ρ1) (h : Pw K (.exc x ρ1)) : Pw K (sRet g ρ) := by
  unfold sRet; unfold EvX at h1; rw [h1]; exact h
theorem pws_retX {x : Xn} (h1 : EvX g ρ x ρ1) (h : Pw K (.exc x ρ1)) : Pw K (sSeq (sRet g) r ρ) := by
  unfold sSeq sRet; unfold EvX at h1; rw [h1]; exact h
theorem pw_retN (h : Pw K (.ret (.sh .non) ρ)) : Pw K (sRetN ρ) := h
theorem pws_retN (h : Pw K (.ret (.sh .non) ρ)) : Pw K (sSeq sRetN r ρ) := h
theorem pws_drop (h1 : Ev g ρ o ρ1) (h : Pw K (r ρ1)) : Pw K (sSeq (sDrop g) r ρ) := by
  unfold sSeq sDrop; unfold Ev at h1; rw [h1]; exact h
theorem pws_dropX {x : Xn} (h1 : EvX g ρ x ρ1) (h : Pw K (.exc x ρ1)) : Pw K (sSeq (sDrop g) r ρ) := by
  unfold sSeq sDrop; unfold EvX at h1; rw [h1]; exact h
theorem pws_set (h1 : Ev g ρ o ρ1) (h2 : St ρ1 i (some o) ρ2) (h : Pw K (r ρ2)) : Pw K (sSeq (sSet i g) r ρ) := by
  unfold sSeq sSet; unfold Ev at h1; rw [h1]; simp only [Res.out]; rw [if_pos h2.1, ← h2.2]; exact h
theorem pws_setX {x : Xn} (h1 : EvX g ρ x ρ1) (h : Pw K (.exc x ρ1)) : Pw K (sSeq (sSet i g) r ρ) := by
  unfold sSeq sSet; unfold EvX at h1; rw [h1]; exact h
theorem pws_asg (h1 : Ev g ρ o ρ1) (hf : Fz o d) (h2 : Tg tg d ρ1 ρ2) (h : Pw K (r ρ2)) : Pw K (sSeq (sAsg g tg) r ρ) := by
  unfold sSeq sAsg; unfold Ev at h1; unfold Fz at hf; unfold Tg at h2; rw [h1]; simp only [Res.out, hf, h2]; exact h
theorem pws_par (h1 : Ev g ρ x ρ1) (h2 : Ev k ρ1 y ρ2) (h3 : St ρ2 i (some x) ρ3) (h4 : St ρ3 j (some y) ρ') (h : Pw K (r ρ')) : Pw K (sSeq (sPar i j g k) r ρ) := by
  unfold sSeq sPar; unfold Ev at h1 h2
  have l : j < ρ2.length := by have := h4.1; rw [h3.2, List.length_set] at this; exact this
  rw [h1]; simp only [Res.out, h2]; rw [if_pos ⟨h3.1, l⟩, ← h3.2, ← h4.2]; exact h
theorem pws_par3 {l : Nat} {ρ4 ρ5 : Store} (h1 : Ev g ρ x ρ1) (h2 : Ev h ρ1 y ρ2) (h2' : Ev k ρ2 z ρ3) (h3 : St ρ3 i (some x) ρ4) (h4 : St ρ4 j (some y) ρ5) (h5 : St ρ5 l (some z) ρ') (hh : Pw K (r ρ')) : Pw K (sSeq (sPar3 i j l g h k) r ρ) := by
  unfold sSeq sPar3; unfold Ev at h1 h2 h2'
  have l1 : j < ρ3.length := by have := h4.1; rw [h3.2, List.length_set] at this; exact this
  have l2 : l < ρ3.length := by have := h5.1; rw [h4.2, List.length_set, h3.2, List.length_set] at this; exact this
  rw [h1]; simp only [Res.out, h2, h2']; rw [if_pos ⟨h3.1, l1, l2⟩, ← h3.2, ← h4.2, ← h5.2]; exact hh
theorem pws_aug {f : O → O → Option O} (h0 : Fu ρ i) (h1 : Ev g ρ y ρ1) (h2 : At ρ1 i x) (h3 : f x y = some w) (h4 : St ρ1 i (some w) ρ2) (h : Pw K (r ρ2)) : Pw K (sSeq (sAug i g f) r ρ) := by
  obtain ⟨o, ho⟩ := h0
  unfold sSeq sAug; unfold Ev at h1; unfold At at h2; rw [ho]; simp only [h1, Res.out, h2, h3]; rw [← h4.2]; exact h
theorem pws_sub (h1 : Ev g ρ o ρ1) (hf : Fz o d) (h0 : Fu ρ1 i) (h2 : Ev k ρ1 y ρ2) (h3 : At ρ2 i x) (h4 : setO x y d = some w) (h5 : St ρ2 i (some w) ρ3) (h : Pw K (r ρ3)) : Pw K (sSeq (sSub i g k) r ρ) := by
  obtain ⟨u, hu⟩ := h0
  unfold sSeq sSub; unfold Ev at h1 h2; unfold At at h3; unfold Fz at hf; rw [h1]; simp only [Res.out, hu, h2, h3, hf, h4]; rw [← h5.2]; exact h
def IfR (K : Out → Prop) (b : Bool) (s t r : aS) (ρ : Store) : Prop := (b = true → Pw K (sSeq s r ρ)) ∧ (b = false → Pw K (sSeq t r ρ))
theorem pws_if (h1 : EvT p ρ b ρ1) (h : IfR K b s t r ρ1) : Pw K (sSeq (sIf p s t) r ρ) := by
  unfold EvT at h1
  unfold sSeq sIf
  rw [h1]
  simp only [Res.out]
  cases b with
  | true => exact h.1 rfl
  | false => exact h.2 rfl
theorem ifr_t (hb : b = true) (h : Pw K (sSeq s r ρ)) : IfR K b s t r ρ := ⟨fun _ => h, fun z => by rw [hb] at z; cases z⟩
theorem ifr_f (hb : b = false) (h : Pw K (sSeq t r ρ)) : IfR K b s t r ρ := ⟨(fun z => by rw [hb] at z; cases z), fun _ => h⟩
/-- the den of a for's body, as it goes on -/
def LoopK (N : Store → Prop) (B : Store → Prop) (K : Out → Prop) : Out → Prop
  | .nx ρ => N ρ
  | .ct ρ => N ρ
  | .brk ρ => B ρ
  | .ret o ρ => K (.ret o ρ)
  | .exc x ρ => K (.exc x ρ)
  | .stuck => False
theorem lk_nx {N B : Store → Prop} (h : N ρ) : Pw (LoopK N B K) (.nx ρ) := h
theorem lk_ct {N B : Store → Prop} (h : N ρ) : Pw (LoopK N B K) (.ct ρ) := h
theorem lk_brk {N B : Store → Prop} (h : B ρ) : Pw (LoopK N B K) (.brk ρ) := h
theorem lk_ret {N B : Store → Prop} (h : Pw K (.ret o ρ)) : Pw (LoopK N B K) (.ret o ρ) := h
theorem lk_exc {N B : Store → Prop} {x : Xn} (h : Pw K (.exc x ρ)) : Pw (LoopK N B K) (.exc x ρ) := h
theorem for_go {body : aS} (I : List D → Store → Prop) (B : Store → Prop) (hB : ∀ ρ, B ρ → Pw K (r ρ)) : ∀ {ds : List D} {ρ : Store}, I ds ρ →
    (∀ d rest σ, I (d :: rest) σ → ∃ σ1, Tg tg d σ σ1 ∧ Pw (LoopK (I rest) B K) (body σ1)) → (∀ σ, I [] σ → Pw K (r σ)) → Pw K (match forD tg body ds ρ with
      | .nx ρ' => r ρ'
      | o => o)
  | [], ρ, h0, _, hf => hf ρ h0
  | d :: ds, ρ, h0, hs, hf => by
    obtain ⟨σ1, e, hk⟩ := hs d ds ρ h0
    unfold Tg at e
    rw [forD, e]
    simp only
    cases hb : body σ1 with
    | nx ρ2 => rw [hb] at hk; exact for_go I B hB hk hs hf
    | ct ρ2 => rw [hb] at hk; exact for_go I B hB hk hs hf
    | brk ρ2 => rw [hb] at hk; exact hB ρ2 hk
    | ret o ρ2 => rw [hb] at hk; exact hk
    | exc x ρ2 => rw [hb] at hk; exact hk
    | stuck => rw [hb] at hk; exact hk.elim
/-- a for: I tells, by what is left, how the store stands; B how it stands behind a break -/
theorem pws_forB {body : aS} (I : List D → Store → Prop) (B : Store → Prop) (hs : EvI src ρ ds ρ1) (h0 : I ds ρ1) (hb : ∀ d rest σ, I (d :: rest) σ → ∃ σ1, Tg tg d σ σ1 ∧ Pw (LoopK (I rest) B K) (body σ1)) (hf : ∀ σ, I [] σ → Pw K (r σ)) (hB : ∀ ρ, B ρ → Pw K (r ρ)) : Pw K (sSeq (sFor src tg body) r ρ) := by
  unfold EvI at hs
  unfold sSeq sFor
  rw [hs]
  exact for_go I B hB h0 hb hf
theorem pws_for {body : aS} (I : List D → Store → Prop) (hs : EvI src ρ ds ρ1) (h0 : I ds ρ1) (hb : ∀ d rest σ, I (d :: rest) σ → ∃ σ1, Tg tg d σ σ1 ∧ Pw (LoopK (I rest) (fun _ => False) K) (body σ1)) (hf : ∀ σ, I [] σ → Pw K (r σ)) : Pw K (sSeq (sFor src tg body) r ρ) :=
  pws_forB I (fun _ => False) hs h0 hb hf fun _ z => z.elim
/-- a while: I tells, by what goes down, how the store stands -/
theorem while_go {q : aT} {body : aS} (I : Nat → Store → Prop) (B : Store → Prop) (hB : ∀ ρ, B ρ → Pw K (r ρ)) (hb : ∀ m σ, I m σ → ∃ b σ1, EvT q σ b σ1 ∧ (b = true → Pw (LoopK (fun σ2 => ∃ m', m' < m ∧ I m' σ2) B K) (body σ1)) ∧ (b = false → Pw K (r σ1))) :
    ∀ (m : Nat) {ρ : Store}, I m ρ → Pw K (match sWhile q body ρ with
      | .nx ρ' => r ρ'
      | o => o) := by
  intro m
  induction m using Nat.strongRecOn with
  | _ m ih =>
    intro ρ h0
    obtain ⟨b, σ1, e, ht, hf⟩ := hb m ρ h0
    unfold EvT at e
    rw [sWhile_eq, e]
    simp only [Res.out]
    cases b with
    | false => exact hf rfl
    | true =>
      rw [if_pos rfl]
      have hk := ht rfl
      cases hb : body σ1 with
      | nx ρ2 => rw [hb] at hk; obtain ⟨m', l, h'⟩ := hk; exact ih m' l h'
      | ct ρ2 => rw [hb] at hk; obtain ⟨m', l, h'⟩ := hk; exact ih m' l h'
      | brk ρ2 => rw [hb] at hk; exact hB ρ2 hk
      | ret o ρ2 => rw [hb] at hk; exact hk
      | exc x ρ2 => rw [hb] at hk; exact hk
      | stuck => rw [hb] at hk; exact hk.elim
theorem pws_whileB {q : aT} {body : aS} (I : Nat → Store → Prop) (B : Store → Prop) (m : Nat) (h0 : I m ρ) (hb : ∀ m σ, I m σ → ∃ b σ1, EvT q σ b σ1 ∧ (b = true → Pw (LoopK (fun σ2 => ∃ m', m' < m ∧ I m' σ2) B K) (body σ1)) ∧ (b = false → Pw K (r σ1))) (hB : ∀ ρ, B ρ → Pw K (r ρ)) : Pw K (sSeq (sWhile q body) r ρ) :=
  while_go I B hB hb m h0
/-! ### a def -/
def Ini (pb : List Bool) (os : List O) (m : Nat) (ρ : Store) : Prop := os.length = pb.length ∧ pb.length ≤ m ∧ (pre pb os).map some ++ List.replicate (m - pb.length) none = ρ
theorem ini_0 : Ini [] [] 0 [] := ⟨rfl, Nat.le_refl _, rfl⟩
theorem ini_n {m : Nat} (h : Ini [] [] m ρ) : Ini [] [] (m + 1) (none :: ρ) := by
  refine ⟨rfl, by simp, ?_⟩
  have := h.2.2
  rw [← this]
  rfl
theorem ini_t {pb : List Bool} {m : Nat} (h : Ini pb os m ρ) : Ini (true :: pb) (o :: os) (m + 1) (some o :: ρ) := by
  obtain ⟨h1, h2, h3⟩ := h
  refine ⟨by simp [h1], by simp [h2], ?_⟩
  rw [← h3]
  simp [pre, Nat.add_sub_add_right]
theorem ini_f {pb : List Bool} {m : Nat} (hf : Fz o d) (h : Ini pb os m ρ) : Ini (false :: pb) (o :: os) (m + 1) (some (.sh d) :: ρ) := by
  obtain ⟨h1, h2, h3⟩ := h
  unfold Fz at hf
  refine ⟨by simp [h1], by simp [h2], ?_⟩
  rw [← h3]
  simp [pre, Nat.add_sub_add_right, hf]
def Outs (pb : List Bool) (os : List O) (ρ : Store) (os' : List O) : Prop := outs pb os ρ = some os'
theorem outs_0 : Outs [] [] ρ [] := rfl
theorem outs_t {pb : List Bool} {os' : List O} (h : Outs pb os ρ os') : Outs (true :: pb) (x :: os) (some o :: ρ) (o :: os') := by
  unfold Outs at *
  rw [outs, h]
  rfl
theorem outs_f {pb : List Bool} {os' : List O} {u : Option O} (hf : Fz x d) (h : Outs pb os ρ os') : Outs (false :: pb) (x :: os) (u :: ρ) (.sh d :: os') := by
  unfold Outs Fz at *
  rw [outs, h, hf]
  rfl
def DefK (pb : List Bool) (os : List O) (Q : FRes → Prop) : Out → Prop
  | .ret o ρ => ∃ os', Outs pb os ρ os' ∧ Q (.ret o os')
  | .nx ρ => ∃ os', Outs pb os ρ os' ∧ Q (.ret (.sh .non) os')
  | .exc x ρ => ∃ os', Outs pb os ρ os' ∧ Q (.exc x os')
  | _ => False
/-- what a def's den answers, told by Q -/
def Fq (r : FRes) (Q : FRes → Prop) : Prop := Q r
theorem fq_def {pb : List Bool} {m : Nat} {body : aS} {Q : FRes → Prop} (h1 : Ini pb os m ρ) (h2 : Pw (DefK pb os Q) (body ρ)) : Fq (aDef pb m body os) Q := by
  obtain ⟨a, _, e⟩ := h1
  unfold Fq aDef
  rw [if_pos a, e]
  cases hb : body ρ with
  | nx ρ' => rw [hb] at h2; obtain ⟨os', u, k⟩ := h2; unfold Outs at u; simp only [u]; exact k
  | ret o ρ' => rw [hb] at h2; obtain ⟨os', u, k⟩ := h2; unfold Outs at u; simp only [u]; exact k
  | exc x ρ' => rw [hb] at h2; obtain ⟨os', u, k⟩ := h2; unfold Outs at u; simp only [u]; exact k
  | brk ρ' => rw [hb] at h2; exact h2.elim
  | ct ρ' => rw [hb] at h2; exact h2.elim
  | stuck => rw [hb] at h2; exact h2.elim
theorem eq_def {pb : List Bool} {m : Nat} {body : aS} {R : FRes} (h1 : Ini pb os m ρ) (h2 : Pw (DefK pb os (fun r => r = R)) (body ρ)) : aDef pb m body os = R := fq_def h1 h2
theorem dk_ret {pb : List Bool} {os' : List O} {Q : FRes → Prop} (h1 : Outs pb os ρ os') (h2 : Q (.ret o os')) : Pw (DefK pb os Q) (.ret o ρ) := ⟨os', h1, h2⟩
theorem dk_nx {pb : List Bool} {os' : List O} {Q : FRes → Prop} (h1 : Outs pb os ρ os') (h2 : Q (.ret (.sh .non) os')) : Pw (DefK pb os Q) (.nx ρ) := ⟨os', h1, h2⟩
theorem dk_exc {pb : List Bool} {os' : List O} {Q : FRes → Prop} {x : Xn} (h1 : Outs pb os ρ os') (h2 : Q (.exc x os')) : Pw (DefK pb os Q) (.exc x ρ) := ⟨os', h1, h2⟩
end
end Den
end
section
/-! Den, part BC: what the operations answer. -/
namespace Den
open PySem L2
section
variable {i j n k : Nat} {s t : Int} {a b c : Str} {d e f : D} {ds es : List D} {o x y z w : O} {u v : Bool} {kvs : List (D × D)} {kos : List (D × O)} {x' y' : Option Int}
/-! + - * // % -/
theorem op_addI : gAdd (.sh (.int s)) (.sh (.int t)) = some (.sh (.int (s + t))) := rfl
theorem op_addS (h : Sz (a.length + b.length ≤ 16000000)) : gAdd (.sh (.str a)) (.sh (.str b)) = some (.sh (.str (a ++ b))) := by
  show (if _ then _ else _) = _
  rw [if_pos h.go]
def App {α : Type} (ds es fs : List α) : Prop := ds ++ es = fs
theorem app_0 {α : Type} {es : List α} : App [] es es := rfl
theorem app_e {α : Type} {es : List α} : App es [] es := List.append_nil es
theorem app_c {α : Type} {d : α} {ds es fs : List α} (h : App ds es fs) : App (d :: ds) es (d :: fs) := by unfold App at *; rw [← h]; rfl
theorem app_n {α : Type} {ds es : List α} : App ds es (ds ++ es) := rfl
theorem op_addT {fs : List D} (h : Sz (ds.length + es.length ≤ 16000000)) (ha : App ds es fs) : gAdd (.sh (.tup ds)) (.sh (.tup es)) = some (.sh (.tup fs)) := by
  rw [← ha]
  show (if _ then _ else _) = _
  rw [if_pos h.go]
theorem op_addLL {fs : List D} (h : Sz (ds.length + es.length ≤ 16000000)) (ha : App ds es fs) : gAdd (oL ds) (oL es) = some (oL fs) := by
  have e : gAdd (oL ds) (oL es) = (match lstD (oL ds), lstD (oL es) with
      | some ds, some es => if ds.length + es.length ≤ 16000000 then some (.lst ((ds ++ es).map O.sh)) else none
      | _, _ => none) := rfl
  rw [e, lstD_oL, lstD_oL, ← ha]
  simp only
  rw [if_pos h.go]
  rfl
theorem op_addLS {fs : List D} (h : Sz (ds.length + es.length ≤ 16000000)) (ha : App ds es fs) : gAdd (oL ds) (.sh (.lst es)) = some (oL fs) := by
  have e : gAdd (oL ds) (.sh (.lst es)) = (match lstD (oL ds), lstD (.sh (.lst es)) with
      | some ds, some es => if ds.length + es.length ≤ 16000000 then some (.lst ((ds ++ es).map O.sh)) else none
      | _, _ => none) := rfl
  rw [e, lstD_oL, ← ha]
  show (if _ then _ else _) = _
  rw [if_pos h.go]
  rfl
theorem op_addSL {fs : List D} (h : Sz (ds.length + es.length ≤ 16000000)) (ha : App ds es fs) : gAdd (.sh (.lst ds)) (oL es) = some (oL fs) := by
  have e : gAdd (.sh (.lst ds)) (oL es) = (match lstD (.sh (.lst ds)), lstD (oL es) with
      | some ds, some es => if ds.length + es.length ≤ 16000000 then some (.lst ((ds ++ es).map O.sh)) else none
      | _, _ => none) := rfl
  rw [e, lstD_oL, ← ha]
  show (if _ then _ else _) = _
  rw [if_pos h.go]
  rfl
theorem op_addSS {fs : List D} (h : Sz (ds.length + es.length ≤ 16000000)) (ha : App ds es fs) : gAdd (.sh (.lst ds)) (.sh (.lst es)) = some (oL fs) := by
  rw [← ha]
  show (if _ then _ else _) = _
  rw [if_pos h.go]
  rfl
theorem op_sub : gSub (.sh (.int s)) (.sh (.int t)) = some (.sh (.int (s - t))) := rfl
theorem op_addII : gAddI (.sh (.int s)) (.sh (.int t)) = some (.sh (.int (s + t))) := rfl
theorem op_subII : gSubI (.sh (.int s)) (.sh (.int t)) = some (.sh (.int (s - t))) := rfl
theorem op_mulI (h : Sz ((-18446744073709551616 < s ∧ s < 18446744073709551616) ∨ (-18446744073709551616 < t ∧ t < 18446744073709551616))) : gMul (.sh (.int s)) (.sh (.int t)) = some (.sh (.int (s * t))) := by
  show (if _ then _ else _) = _
  rw [if_pos h.go]
theorem op_mulL (h : Sz (0 ≤ t ∧ t ≤ 1000000 ∧ ds.length * t.toNat ≤ 16000000)) : gMul (oL ds) (.sh (.int t)) = some (oL (List.replicate t.toNat ds).flatten) := by
  have e : gMul (oL ds) (.sh (.int t)) = (match lstD (oL ds) with
    | some ds => if 0 ≤ t ∧ t ≤ 1000000 ∧ ds.length * t.toNat ≤ 16000000 then some (.lst ((List.replicate t.toNat ds).flatten.map O.sh)) else none
    | none => none) := rfl
  rw [e, lstD_oL]
  simp only
  rw [if_pos h.go]
  rfl
theorem op_mod (h : Sz (0 < t)) : gMod (.sh (.int s)) (.sh (.int t)) = some (.sh (.int (s % t))) := by
  show (if _ then _ else _) = _
  rw [if_pos h.go]
theorem op_fdiv (h : Sz (0 < t ∧ t < 1073741824)) : gFdiv (.sh (.int s)) (.sh (.int t)) = some (.sh (.int (s / t))) := by
  show (if _ then _ else _) = _
  rw [if_pos h.go]
theorem op_pow (h : Sz (0 ≤ t ∧ t ≤ 1000000 ∧ s.natAbs < 18446744073709551616)) : gPow (.sh (.int s)) (.sh (.int t)) = some (.sh (.int (s ^ t.toNat))) := by
  show (if _ then _ else _) = _
  rw [if_pos h.go]
theorem op_neg : gNeg (.sh (.int s)) = some (.sh (.int (-s))) := rfl
/-! == -/
theorem op_eq (h : gEqD d e = some u) : gEq (.sh d) (.sh e) = some (.sh (.bl u)) := by
  unfold gEq; rw [fz, fz, h]; rfl
theorem op_ne (h : gEqD d e = some u) : gNe (.sh d) (.sh e) = some (.sh (.bl (!u))) := by
  unfold gNe; rw [fz, fz, h]; rfl
theorem op_eqL (h : gEqD (.lst ds) (.lst es) = some u) : gEq (oL ds) (oL es) = some (.sh (.bl u)) := by
  unfold gEq; rw [fz_oL, fz_oL, h]; rfl
theorem op_neL (h : gEqD (.lst ds) (.lst es) = some u) : gNe (oL ds) (oL es) = some (.sh (.bl (!u))) := by
  unfold gNe; rw [fz_oL, fz_oL, h]; rfl
theorem op_eqLS (h : gEqD (.lst ds) e = some u) : gEq (oL ds) (.sh e) = some (.sh (.bl u)) := by
  unfold gEq; rw [fz_oL, fz, h]; rfl
theorem op_neLS (h : gEqD (.lst ds) e = some u) : gNe (oL ds) (.sh e) = some (.sh (.bl (!u))) := by
  unfold gNe; rw [fz_oL, fz, h]; rfl
theorem op_eqSL (h : gEqD d (.lst es) = some u) : gEq (.sh d) (oL es) = some (.sh (.bl u)) := by
  unfold gEq; rw [fz_oL, fz, h]; rfl
theorem op_eqA (h1 : dicE d = false) (h : gEq (.sh d) (.sh e) = some w) : gEqA (.sh d) (.sh e) = some w := by
  unfold gEqA; rw [fz, h1]; exact h
theorem eq_ii : gEqD (.int s) (.int t) = some (decide (s = t)) := rfl
theorem eq_ss : gEqD (.str a) (.str b) = some (decide (a = b)) := rfl
theorem eq_bb : gEqD (.bl u) (.bl v) = some (decide (u = v)) := rfl
theorem eq_nn : gEqD .non .non = some true := rfl
theorem eq_ni : gEqD .non (.int s) = some false := rfl
theorem eq_in : gEqD (.int s) .non = some false := rfl
theorem eq_nb : gEqD .non (.bl u) = some false := rfl
theorem eq_bn : gEqD (.bl u) .non = some false := rfl
theorem eq_ns : gEqD .non (.str a) = some false := rfl
theorem eq_sn : gEqD (.str a) .non = some false := rfl
theorem eq_is : gEqD (.int s) (.str a) = some false := rfl
theorem eq_si : gEqD (.str a) (.int s) = some false := rfl
theorem eq_bs : gEqD (.bl u) (.str a) = some false := rfl
theorem eq_sb : gEqD (.str a) (.bl u) = some false := rfl
theorem eqE_L : gEqE (oL ds) (oL []) = some (.sh (.bl ds.isEmpty)) := by
  unfold gEqE; rw [fz_oL, fz_oL]; rfl
theorem neE_L : gNeE (oL ds) (oL []) = some (.sh (.bl (!ds.isEmpty))) := by
  unfold gNeE; rw [fz_oL, fz_oL]; rfl
theorem eqE_S : gEqE (.sh (.lst ds)) (oL []) = some (.sh (.bl ds.isEmpty)) := by
  unfold gEqE; rw [fz_oL, fz]; rfl
theorem neE_S : gNeE (.sh (.lst ds)) (oL []) = some (.sh (.bl (!ds.isEmpty))) := by
  unfold gNeE; rw [fz_oL, fz]; rfl
theorem eqE_T : gEqE (.sh (.tup ds)) (.sh (.tup [])) = some (.sh (.bl ds.isEmpty)) := by
  unfold gEqE; rw [fz, fz]; rfl
theorem neE_T : gNeE (.sh (.tup ds)) (.sh (.tup [])) = some (.sh (.bl (!ds.isEmpty))) := by
  unfold gNeE; rw [fz, fz]; rfl
/-! order -/
theorem op_ltI : gLt (.sh (.int s)) (.sh (.int t)) = some (.sh (.bl (decide (s < t)))) := rfl
theorem op_gtI : gGt (.sh (.int s)) (.sh (.int t)) = some (.sh (.bl (decide (t < s)))) := rfl
theorem op_leI : gLe (.sh (.int s)) (.sh (.int t)) = some (.sh (.bl (decide (s ≤ t)))) := rfl
theorem op_geI : gGe (.sh (.int s)) (.sh (.int t)) = some (.sh (.bl (decide (t ≤ s)))) := rfl
/-! is -/
theorem op_isN : gIsN (.sh d) = some (.sh (.bl (isNon d))) := by unfold gIsN; rw [fz]
theorem op_notN : gNotN (.sh d) = some (.sh (.bl (!isNon d))) := by unfold gNotN; rw [fz]
theorem op_isB : gIsB u (.sh d) = some (.sh (.bl (isBl u d))) := by unfold gIsB; rw [fz]
theorem op_notB : gNotB u (.sh d) = some (.sh (.bl (!isBl u d))) := by unfold gNotB; rw [fz]
theorem op_isNL : gIsN (oL ds) = some (.sh (.bl false)) := by unfold gIsN; rw [fz_oL]; rfl
theorem op_notNL : gNotN (oL ds) = some (.sh (.bl true)) := by unfold gNotN; rw [fz_oL]; rfl
/-! in -/
theorem op_in (h : inG x y = some u) : gIn x y = some (.sh (.bl u)) := by unfold gIn; rw [h]; rfl
theorem op_notIn (h : inG x y = some u) : gNotIn x y = some (.sh (.bl (!u))) := by unfold gNotIn; rw [h]; rfl
theorem in_cs {m : Nat} : inG (.sh (.str ⟨#[m]⟩)) (.sh (.str b)) = some (decide (m ∈ b.cps.toList)) := rfl
theorem in_sT {xs : List Str} : inG (.sh (.str a)) (.sh (.tup (xs.map D.str))) = some (decide (a ∈ xs)) := inG_tS a xs
theorem in_sL {xs : List Str} : inG (.sh (.str a)) (.sh (.lst (xs.map D.str))) = some (decide (a ∈ xs)) := inG_lS a xs
theorem in_sO {xs : List Str} : inG (.sh (.str a)) (oL (xs.map D.str)) = some (decide (a ∈ xs)) := by
  have e := inG_lS a xs
  unfold inG at e ⊢
  simp only [ditD, dicD, seqD, fz_oL, lS, fz] at e ⊢
  split
  · rename_i h; cases h
  · simp only [ditD, dicD, seqD, fz_oL, fz]
    exact e
/-! items -/
theorem op_ixL (h : atI ds t = some d) : gIx (oL ds) (.sh (.int t)) = some (.sh d) := by
  have : gIx (oL ds) (.sh (.int t)) = (match atI (ds.map O.sh) t with
    | some (.sh d) => some (.sh d)
    | _ => none) := rfl
  rw [this]
  have e : atI (ds.map O.sh) t = (atI ds t).map O.sh := by
    unfold atI
    rw [List.length_map]
    cases ixN ds.length t with
    | none => rfl
    | some k => simp
  rw [e, h]
  rfl
theorem op_ixS (h : atI ds t = some d) : gIx (.sh (.lst ds)) (.sh (.int t)) = some (.sh d) := by
  show (atI ds t).map O.sh = _; rw [h]; rfl
theorem op_ixT (h : atI ds t = some d) : gIx (.sh (.tup ds)) (.sh (.int t)) = some (.sh d) := by
  show (atI ds t).map O.sh = _; rw [h]; rfl
theorem op_ixC {m : Nat} (hz : Sz (a.length ≤ 16000000)) (h : atI a.cps.toList t = some m) : gIx (.sh (.str a)) (.sh (.int t)) = some (.sh (.str ⟨#[m]⟩)) := by
  show (if _ then _ else _) = _
  rw [if_pos hz.go, h]
  rfl
theorem ix_lit0 {α : Type} {a : α} {l : List α} : atI (a :: l) 0 = some a := atI_0 a l
theorem ix_lit1 {α : Type} {a b : α} {l : List α} : atI (a :: b :: l) 1 = some b := atI_1 a b l
theorem ix_lit2 {α : Type} {a b c : α} {l : List α} : atI (a :: b :: c :: l) 2 = some c := atI_2 a b c l
theorem ix_lit3 {α : Type} {a b c d : α} {l : List α} : atI (a :: b :: c :: d :: l) 3 = some d := atI_3 a b c d l
theorem ix_nat {α : Type} {l : List α} {k : Nat} {a : α} (h : l[k]? = some a) : atI l (k : Int) = some a := (atI_nat l k).trans h
theorem ix_a1 {α : Type} {l : List α} {k : Nat} {a : α} (h : l[k + 1]? = some a) : atI l ((k : Int) + 1) = some a := by
  have e : ((k : Int) + 1) = ((k + 1 : Nat) : Int) := by omega
  rw [e]
  exact (atI_nat l (k + 1)).trans h
theorem ix_1a {α : Type} {l : List α} {k : Nat} {a : α} (h : l[k + 1]? = some a) : atI l (1 + (k : Int)) = some a := by
  have e : (1 + (k : Int)) = ((k + 1 : Nat) : Int) := by omega
  rw [e]
  exact (atI_nat l (k + 1)).trans h
theorem ix_map {α β : Type} {l : List α} {k : Nat} {f : α → β} {a : α} (h : l[k]? = some a) : (l.map f)[k]? = some (f a) := by rw [List.getElem?_map, h]; rfl
/-! slices -/
theorem sl_T (h : cutD ds x' y' = es) : gSl (.sh (.tup ds)) x' y' = some (.sh (.tup es)) := by rw [← h]; rfl
theorem sl_L (h : cutD ds x' y' = es) : gSl (oL ds) x' y' = some (oL es) := by
  have e : gSl (oL ds) x' y' = (match lstD (oL ds) with
      | some ds => some (.lst ((cutD ds x' y').map O.sh))
      | none => none) := rfl
  rw [e, lstD_oL, ← h]
  rfl
theorem sl_S (h : cutD ds x' y' = es) : gSl (.sh (.lst ds)) x' y' = some (oL es) := by rw [← h]; rfl
theorem sl_C (hz : Sz (a.length ≤ 16000000)) : gSl (.sh (.str a)) x' y' = some (.sh (.str (cutS a x' y'))) := by
  show (if _ then _ else _) = _
  rw [if_pos hz.go]
theorem cut_toN {α : Type} {l : List α} {k : Nat} : cutD l none (some (k : Int)) = l.take k := cut_to l k
theorem cut_frN {α : Type} {l : List α} {k : Nat} : cutD l (some (k : Int)) none = l.drop k := cut_from l k
theorem cut_fr1 {α : Type} {x : α} {l : List α} : cutD (x :: l) (some 1) none = l := cut_from (x :: l) 1
theorem cut_fr2 {α : Type} {x y : α} {l : List α} : cutD (x :: y :: l) (some 2) none = l := cut_from (x :: y :: l) 2
theorem cut_fr3 {α : Type} {x y z : α} {l : List α} : cutD (x :: y :: z :: l) (some 3) none = l := cut_from (x :: y :: z :: l) 3
theorem cut_fr4 {α : Type} {x y z w : α} {l : List α} : cutD (x :: y :: z :: w :: l) (some 4) none = l := cut_from (x :: y :: z :: w :: l) 4
theorem cut_to0 {α : Type} {l : List α} : cutD l none (some 0) = [] := cut_to l 0
theorem cut_to1 {α : Type} {x : α} {l : List α} : cutD (x :: l) none (some 1) = [x] := cut_to (x :: l) 1
theorem cut_to2 {α : Type} {x y : α} {l : List α} : cutD (x :: y :: l) none (some 2) = [x, y] := cut_to (x :: y :: l) 2
theorem cut_to3 {α : Type} {x y z : α} {l : List α} : cutD (x :: y :: z :: l) none (some 3) = [x, y, z] := cut_to (x :: y :: z :: l) 3
theorem cut_d1 {α : Type} {l : List α} : cutD l (some 1) none = l.drop 1 := cut_from l 1
theorem cut_d0 {α : Type} {l : List α} : cutD l (some 0) none = l := cut_from l 0
theorem cut_mid {α : Type} {l : List α} {i j : Nat} : cutD l (some (i : Int)) (some (j : Int)) = (l.take j).drop i := by
  unfold cutD
  rw [HT.sIx_nat, HT.sIx_nat]
  apply List.ext_getElem?
  intro m
  simp only [List.getElem?_take, List.getElem?_drop]
  by_cases h1 : i ≤ l.length
  · rw [Nat.min_eq_left h1]
    by_cases h2 : m < min j l.length - i
    · rw [if_pos h2, if_pos (by omega)]
    · rw [if_neg h2]
      by_cases h3 : i + m < j
      · rw [if_pos h3, List.getElem?_eq_none (by omega)]
      · rw [if_neg h3]
  · rw [Nat.min_eq_right (a := i) (b := l.length) (by omega)]
    rw [List.getElem?_eq_none (l := l) (i := l.length + m) (by omega), List.getElem?_eq_none (l := l) (i := i + m) (by omega)]
    simp
/-! len and its like -/
theorem len_T : gLen (.sh (.tup ds)) = some (.sh (.int ds.length)) := rfl
theorem len_S : gLen (.sh (.lst ds)) = some (.sh (.int ds.length)) := rfl
theorem len_W : gLen (.sh (.wls ds)) = some (.sh (.int ds.length)) := rfl
theorem len_L : gLen (oL ds) = some (.sh (.int ds.length)) := by
  show some (O.sh (.int ((ds.map O.sh).length : Int))) = _
  rw [List.length_map]
theorem len_D : gLen (.sh (.dic kvs)) = some (.sh (.int kvs.length)) := rfl
theorem len_t : gLen (.sh (.dit kvs)) = some (.sh (.int kvs.length)) := rfl
theorem len_Do : gLen (.dic kos) = some (.sh (.int kos.length)) := rfl
theorem len_to : gLen (.dit kos) = some (.sh (.int kos.length)) := rfl
theorem len_C (h : Sz (a.length ≤ 16000000)) : gLen (.sh (.str a)) = some (.sh (.int a.length)) := by
  show (if _ then _ else _) = _
  rw [if_pos h.go]
theorem list_T : gList (.sh (.tup ds)) = some (oL ds) := rfl
theorem list_S : gList (.sh (.lst ds)) = some (oL ds) := rfl
theorem list_W : gList (.sh (.wls ds)) = some (oL ds) := rfl
theorem list_L : gList (oL ds) = some (oL ds) := by
  have e : gList (oL ds) = (match lstD (oL ds) with
      | some ds => some (.lst (ds.map O.sh))
      | none => match dicD (oL ds) with
        | some kvs => some (.lst ((kvs.map Prod.fst).map O.sh))
        | none => match ditD (oL ds) with
          | some kvs => some (.lst ((kvs.map Prod.fst).map O.sh))
          | none => none) := rfl
  rw [e, lstD_oL]
  rfl
theorem list_d : gList (.sh (.dic kvs)) = some (oL (kvs.map Prod.fst)) := by
  unfold gList; simp only [tupD, lstD, dicD, fz, oL]
theorem list_t : gList (.sh (.dit kvs)) = some (oL (kvs.map Prod.fst)) := by
  unfold gList; simp only [tupD, lstD, dicD, ditD, fz, oL]
theorem tuple_T : gTuple (.sh (.tup ds)) = some (.sh (.tup ds)) := rfl
theorem tuple_S : gTuple (.sh (.lst ds)) = some (.sh (.tup ds)) := rfl
theorem tuple_L : gTuple (oL ds) = some (.sh (.tup ds)) := by
  have e : gTuple (oL ds) = (match lstD (oL ds) with
      | some ds => some (.sh (.tup ds))
      | none => none) := rfl
  rw [e, lstD_oL]
theorem int_i : gInt (.sh (.int s)) = some (.sh (.int s)) := rfl
theorem rev_L : gRev (oL ds) = some (oL ds.reverse) := by unfold gRev; rw [lstD_oL]; rfl
theorem rev_S : gRev (.sh (.lst ds)) = some (oL ds.reverse) := rfl
theorem min2_i : gMin2 (.sh (.int s)) (.sh (.int t)) = some (.sh (.int (min s t))) := by
  show some (O.sh (.int (if t < s then t else s))) = _
  rw [Int.min_def]
  congr 3
  by_cases h : t < s
  · rw [if_pos h, if_neg (by omega)]
  · rw [if_neg h, if_pos (by omega)]
theorem max2_i : gMax2 (.sh (.int s)) (.sh (.int t)) = some (.sh (.int (max s t))) := by
  show some (O.sh (.int (if t > s then t else s))) = _
  rw [Int.max_def]
  congr 3
  by_cases h : s < t
  · rw [if_pos h, if_pos (by omega)]
  · rw [if_neg h]
    by_cases h2 : s ≤ t
    · rw [if_pos h2]; omega
    · rw [if_neg h2]
theorem bools_map {α : Type} {xs : List α} {q : α → Bool} : boolsD (xs.map fun x => .bl (q x)) = some (xs.map q) := by
  induction xs with
  | nil => rfl
  | cons x xs ih => simp [boolsD, ih]
theorem ints_map {α : Type} {xs : List α} {q : α → Int} : intsD (xs.map fun x => .int (q x)) = some (xs.map q) := by
  induction xs with
  | nil => rfl
  | cons x xs ih => simp [intsD, ih]
theorem ints_map' {xs : List Int} : intsD (xs.map .int) = some xs := by
  have := ints_map (xs := xs) (q := fun x => x)
  rw [List.map_id'] at this
  exact this
theorem strs_map {α : Type} {xs : List α} {q : α → Str} : strsD (xs.map fun x => .str (q x)) = some (xs.map q) := by
  induction xs with
  | nil => rfl
  | cons x xs ih => simp [strsD, ih]
theorem strs_map' {xs : List Str} : strsD (xs.map .str) = some xs := by
  have := strs_map (xs := xs) (q := fun x => x)
  rw [List.map_id'] at this
  exact this
theorem all_L {α : Type} {xs : List α} {q : α → Bool} : gAll (oL (xs.map fun x => .bl (q x))) = some (.sh (.bl (xs.all q))) := by
  unfold gAll onBools
  rw [lstD_oL]
  simp only [bools_map, List.all_map]
  rfl
theorem any_L {α : Type} {xs : List α} {q : α → Bool} : gAny (oL (xs.map fun x => .bl (q x))) = some (.sh (.bl (xs.any q))) := by
  unfold gAny onBools
  rw [lstD_oL]
  simp only [bools_map, List.any_map]
  rfl
theorem sum_L {α : Type} {xs : List α} {q : α → Int} : gSum (oL (xs.map fun x => .int (q x))) = some (.sh (.int (xs.map q).sum)) := by
  unfold gSum onInts
  rw [lstD_oL]
  simp only [ints_map, Option.map_some]
theorem max_L {α : Type} {xs : List α} {q : α → Int} : gMaxL (oL (.int s :: xs.map fun x => .int (q x))) = some (.sh (.int ((xs.map q).foldl max s))) := by
  unfold gMaxL onInts
  rw [lstD_oL]
  have : intsD (.int s :: xs.map fun x => .int (q x)) = some (s :: xs.map q) := by
    show (intsD (xs.map fun x => .int (q x))).map (s :: ·) = _
    rw [ints_map]
    rfl
  simp only [this, List.max?_cons', Option.map_some]
theorem mulS_op (h : Sz (0 ≤ t ∧ t ≤ 1000 ∧ a.length ≤ 1000)) : gMulS (.sh (.str a)) (.sh (.int t)) = some (.sh (.str (Txt.mul a t))) := by
  show (if _ then _ else _) = _
  rw [if_pos h.go]
theorem srtS_L {α : Type} {xs : List α} {q : α → Str} (h : Sz (xs.length < 64)) : gSortedS (oL (xs.map fun x => .str (q x))) = some (oL ((sortStr (xs.map q)).map D.str)) := by
  unfold gSortedS
  rw [lstD_oL]
  simp only [strs_map, List.length_map]
  rw [if_pos h.go]
  rfl
theorem srtSet_L {α : Type} {xs : List α} {q : α → Str} (h : Sz (xs.length ≤ 1000)) : gSrtSet (oL (xs.map fun x => .str (q x))) = some (oL ((sortStr (uniq (xs.map q))).map D.str)) := by
  unfold gSrtSet seqO
  rw [lstD_oL]
  simp only [strs_map, List.length_map]
  rw [if_pos h.go]
  rfl
theorem str_i (h : Sz (s.natAbs.log2 < 1920)) : gStr (.sh (.int s)) = some (.sh (.str (toString s))) := by
  show (if _ then _ else _) = _
  rw [if_pos h.go]
theorem str_s : gStr (.sh (.str a)) = some (.sh (.str a)) := rfl
theorem tru_L : truD (.lst ds) = some (!ds.isEmpty) := rfl
theorem tru_T : truD (.tup ds) = some (!ds.isEmpty) := rfl
theorem tru_b : truD (.bl u) = some u := rfl
theorem tru_i : truD (.int s) = some (s != 0) := rfl
theorem stT {f : Str → Bool} : gStT f (.sh (.str a)) = some (.sh (.bl (f a))) := rfl
/-! a dict's own -/
theorem dicE_i : dicE (.int s) = false := rfl
theorem dicE_s : dicE (.str a) = false := rfl
theorem dicE_n : dicE .non = false := rfl
theorem dicE_b : dicE (.bl u) = false := rfl
theorem dicE_t : dicE (.tup ds) = false := rfl
theorem dicE_l : dicE (.lst ds) = false := rfl

theorem isi_non_int : gIsi "int" (.sh D.non) = some (.sh (.bl false)) := by unfold gIsi; rw [fz]; rfl
theorem isi_non_bool : gIsi "bool" (.sh D.non) = some (.sh (.bl false)) := by unfold gIsi; rw [fz]; rfl
theorem isi_non_str : gIsi "str" (.sh D.non) = some (.sh (.bl false)) := by unfold gIsi; rw [fz]; rfl
theorem isi_non_tuple : gIsi "tuple" (.sh D.non) = some (.sh (.bl false)) := by unfold gIsi; rw [fz]; rfl
theorem isi_non_list : gIsi "list" (.sh D.non) = some (.sh (.bl false)) := by unfold gIsi; rw [fz]; rfl
theorem isi_non_dict : gIsi "dict" (.sh D.non) = some (.sh (.bl false)) := by unfold gIsi; rw [fz]; rfl
theorem isi2_non : gIsi2 "tuple" "list" (.sh D.non) = some (.sh (.bl false)) := by unfold gIsi2; rw [fz]; rfl
theorem isi_bl_int : gIsi "int" (.sh (.bl u)) = some (.sh (.bl true)) := by unfold gIsi; rw [fz]; rfl
theorem isi_bl_bool : gIsi "bool" (.sh (.bl u)) = some (.sh (.bl true)) := by unfold gIsi; rw [fz]; rfl
theorem isi_bl_str : gIsi "str" (.sh (.bl u)) = some (.sh (.bl false)) := by unfold gIsi; rw [fz]; rfl
theorem isi_bl_tuple : gIsi "tuple" (.sh (.bl u)) = some (.sh (.bl false)) := by unfold gIsi; rw [fz]; rfl
theorem isi_bl_list : gIsi "list" (.sh (.bl u)) = some (.sh (.bl false)) := by unfold gIsi; rw [fz]; rfl
theorem isi_bl_dict : gIsi "dict" (.sh (.bl u)) = some (.sh (.bl false)) := by unfold gIsi; rw [fz]; rfl
theorem isi2_bl : gIsi2 "tuple" "list" (.sh (.bl u)) = some (.sh (.bl false)) := by unfold gIsi2; rw [fz]; rfl
theorem isi_int_int : gIsi "int" (.sh (.int s)) = some (.sh (.bl true)) := by unfold gIsi; rw [fz]; rfl
theorem isi_int_bool : gIsi "bool" (.sh (.int s)) = some (.sh (.bl false)) := by unfold gIsi; rw [fz]; rfl
theorem isi_int_str : gIsi "str" (.sh (.int s)) = some (.sh (.bl false)) := by unfold gIsi; rw [fz]; rfl
theorem isi_int_tuple : gIsi "tuple" (.sh (.int s)) = some (.sh (.bl false)) := by unfold gIsi; rw [fz]; rfl
theorem isi_int_list : gIsi "list" (.sh (.int s)) = some (.sh (.bl false)) := by unfold gIsi; rw [fz]; rfl
theorem isi_int_dict : gIsi "dict" (.sh (.int s)) = some (.sh (.bl false)) := by unfold gIsi; rw [fz]; rfl
theorem isi2_int : gIsi2 "tuple" "list" (.sh (.int s)) = some (.sh (.bl false)) := by unfold gIsi2; rw [fz]; rfl
theorem isi_str_int : gIsi "int" (.sh (.str a)) = some (.sh (.bl false)) := by unfold gIsi; rw [fz]; rfl
theorem isi_str_bool : gIsi "bool" (.sh (.str a)) = some (.sh (.bl false)) := by unfold gIsi; rw [fz]; rfl
theorem isi_str_str : gIsi "str" (.sh (.str a)) = some (.sh (.bl true)) := by unfold gIsi; rw [fz]; rfl
theorem isi_str_tuple : gIsi "tuple" (.sh (.str a)) = some (.sh (.bl false)) := by unfold gIsi; rw [fz]; rfl
theorem isi_str_list : gIsi "list" (.sh (.str a)) = some (.sh (.bl false)) := by unfold gIsi; rw [fz]; rfl
theorem isi_str_dict : gIsi "dict" (.sh (.str a)) = some (.sh (.bl false)) := by unfold gIsi; rw [fz]; rfl
theorem isi2_str : gIsi2 "tuple" "list" (.sh (.str a)) = some (.sh (.bl false)) := by unfold gIsi2; rw [fz]; rfl
theorem isi_tup_int : gIsi "int" (.sh (.tup ds)) = some (.sh (.bl false)) := by unfold gIsi; rw [fz]; rfl
theorem isi_tup_bool : gIsi "bool" (.sh (.tup ds)) = some (.sh (.bl false)) := by unfold gIsi; rw [fz]; rfl
theorem isi_tup_str : gIsi "str" (.sh (.tup ds)) = some (.sh (.bl false)) := by unfold gIsi; rw [fz]; rfl
theorem isi_tup_tuple : gIsi "tuple" (.sh (.tup ds)) = some (.sh (.bl true)) := by unfold gIsi; rw [fz]; rfl
theorem isi_tup_list : gIsi "list" (.sh (.tup ds)) = some (.sh (.bl false)) := by unfold gIsi; rw [fz]; rfl
theorem isi_tup_dict : gIsi "dict" (.sh (.tup ds)) = some (.sh (.bl false)) := by unfold gIsi; rw [fz]; rfl
theorem isi2_tup : gIsi2 "tuple" "list" (.sh (.tup ds)) = some (.sh (.bl true)) := by unfold gIsi2; rw [fz]; rfl
theorem isi_lst_int : gIsi "int" (.sh (.lst ds)) = some (.sh (.bl false)) := by unfold gIsi; rw [fz]; rfl
theorem isi_lst_bool : gIsi "bool" (.sh (.lst ds)) = some (.sh (.bl false)) := by unfold gIsi; rw [fz]; rfl
theorem isi_lst_str : gIsi "str" (.sh (.lst ds)) = some (.sh (.bl false)) := by unfold gIsi; rw [fz]; rfl
theorem isi_lst_tuple : gIsi "tuple" (.sh (.lst ds)) = some (.sh (.bl false)) := by unfold gIsi; rw [fz]; rfl
theorem isi_lst_list : gIsi "list" (.sh (.lst ds)) = some (.sh (.bl true)) := by unfold gIsi; rw [fz]; rfl
theorem isi_lst_dict : gIsi "dict" (.sh (.lst ds)) = some (.sh (.bl false)) := by unfold gIsi; rw [fz]; rfl
theorem isi2_lst : gIsi2 "tuple" "list" (.sh (.lst ds)) = some (.sh (.bl true)) := by unfold gIsi2; rw [fz]; rfl
theorem isi_wls_int : gIsi "int" (.sh (.wls ds)) = some (.sh (.bl false)) := by unfold gIsi; rw [fz]; rfl
theorem isi_wls_bool : gIsi "bool" (.sh (.wls ds)) = some (.sh (.bl false)) := by unfold gIsi; rw [fz]; rfl
theorem isi_wls_str : gIsi "str" (.sh (.wls ds)) = some (.sh (.bl false)) := by unfold gIsi; rw [fz]; rfl
theorem isi_wls_tuple : gIsi "tuple" (.sh (.wls ds)) = some (.sh (.bl false)) := by unfold gIsi; rw [fz]; rfl
theorem isi_wls_list : gIsi "list" (.sh (.wls ds)) = some (.sh (.bl true)) := by unfold gIsi; rw [fz]; rfl
theorem isi_wls_dict : gIsi "dict" (.sh (.wls ds)) = some (.sh (.bl false)) := by unfold gIsi; rw [fz]; rfl
theorem isi2_wls : gIsi2 "tuple" "list" (.sh (.wls ds)) = some (.sh (.bl true)) := by unfold gIsi2; rw [fz]; rfl
theorem isi_ktp_int : gIsi "int" (.sh (.ktp ds)) = some (.sh (.bl false)) := by unfold gIsi; rw [fz]; rfl
theorem isi_ktp_bool : gIsi "bool" (.sh (.ktp ds)) = some (.sh (.bl false)) := by unfold gIsi; rw [fz]; rfl
theorem isi_ktp_str : gIsi "str" (.sh (.ktp ds)) = some (.sh (.bl false)) := by unfold gIsi; rw [fz]; rfl
theorem isi_ktp_tuple : gIsi "tuple" (.sh (.ktp ds)) = some (.sh (.bl true)) := by unfold gIsi; rw [fz]; rfl
theorem isi_ktp_list : gIsi "list" (.sh (.ktp ds)) = some (.sh (.bl false)) := by unfold gIsi; rw [fz]; rfl
theorem isi_ktp_dict : gIsi "dict" (.sh (.ktp ds)) = some (.sh (.bl false)) := by unfold gIsi; rw [fz]; rfl
theorem isi2_ktp : gIsi2 "tuple" "list" (.sh (.ktp ds)) = some (.sh (.bl true)) := by unfold gIsi2; rw [fz]; rfl
theorem isi_dic_int : gIsi "int" (.sh (.dic kvs)) = some (.sh (.bl false)) := by unfold gIsi; rw [fz]; rfl
theorem isi_dic_bool : gIsi "bool" (.sh (.dic kvs)) = some (.sh (.bl false)) := by unfold gIsi; rw [fz]; rfl
theorem isi_dic_str : gIsi "str" (.sh (.dic kvs)) = some (.sh (.bl false)) := by unfold gIsi; rw [fz]; rfl
theorem isi_dic_tuple : gIsi "tuple" (.sh (.dic kvs)) = some (.sh (.bl false)) := by unfold gIsi; rw [fz]; rfl
theorem isi_dic_list : gIsi "list" (.sh (.dic kvs)) = some (.sh (.bl false)) := by unfold gIsi; rw [fz]; rfl
theorem isi_dic_dict : gIsi "dict" (.sh (.dic kvs)) = some (.sh (.bl true)) := by unfold gIsi; rw [fz]; rfl
theorem isi2_dic : gIsi2 "tuple" "list" (.sh (.dic kvs)) = some (.sh (.bl false)) := by unfold gIsi2; rw [fz]; rfl
theorem isi_dit_int : gIsi "int" (.sh (.dit kvs)) = some (.sh (.bl false)) := by unfold gIsi; rw [fz]; rfl
theorem isi_dit_bool : gIsi "bool" (.sh (.dit kvs)) = some (.sh (.bl false)) := by unfold gIsi; rw [fz]; rfl
theorem isi_dit_str : gIsi "str" (.sh (.dit kvs)) = some (.sh (.bl false)) := by unfold gIsi; rw [fz]; rfl
theorem isi_dit_tuple : gIsi "tuple" (.sh (.dit kvs)) = some (.sh (.bl false)) := by unfold gIsi; rw [fz]; rfl
theorem isi_dit_list : gIsi "list" (.sh (.dit kvs)) = some (.sh (.bl false)) := by unfold gIsi; rw [fz]; rfl
theorem isi_dit_dict : gIsi "dict" (.sh (.dit kvs)) = some (.sh (.bl true)) := by unfold gIsi; rw [fz]; rfl
theorem isi2_dit : gIsi2 "tuple" "list" (.sh (.dit kvs)) = some (.sh (.bl false)) := by unfold gIsi2; rw [fz]; rfl
theorem isi_oL_int : gIsi "int" (oL ds) = some (.sh (.bl false)) := by unfold gIsi; rw [fz_oL]; rfl
theorem isi_oL_bool : gIsi "bool" (oL ds) = some (.sh (.bl false)) := by unfold gIsi; rw [fz_oL]; rfl
theorem isi_oL_str : gIsi "str" (oL ds) = some (.sh (.bl false)) := by unfold gIsi; rw [fz_oL]; rfl
theorem isi_oL_tuple : gIsi "tuple" (oL ds) = some (.sh (.bl false)) := by unfold gIsi; rw [fz_oL]; rfl
theorem isi_oL_list : gIsi "list" (oL ds) = some (.sh (.bl true)) := by unfold gIsi; rw [fz_oL]; rfl
theorem isi_oL_dict : gIsi "dict" (oL ds) = some (.sh (.bl false)) := by unfold gIsi; rw [fz_oL]; rfl
theorem isi2_oL : gIsi2 "tuple" "list" (oL ds) = some (.sh (.bl true)) := by unfold gIsi2; rw [fz_oL]; rfl
end
end Den
end
section
/-! Den, part BD: the pen from which the laws draw. -/
namespace Den
open PySem L2
/-! ### the pen -/
structure Pen where
  cells : List Int
  at_ : Int
  dig : Int
  cnt : Int
  fold : Int
def penO (p : Pen) : O := .dic [(.str "cells", .sh (.lst (p.cells.map D.int))), (.str "at", .sh (.int p.at_)), (.str "digits", .sh (.int p.dig)), (.str "count", .sh (.int p.cnt)), (.str "fold", .sh (.int p.fold))]
theorem own_pen {p : Pen} : Own (penO p) := fun d z => by cases z
structure Pen.Ok (B : Nat) (p : Pen) : Prop where
  len : p.cells.length ≤ 63
  at0 : 0 ≤ p.at_
  at1 : p.at_ ≤ p.cells.length
  dig : 0 ≤ p.dig
  cnt0 : 0 ≤ p.cnt
  cnt1 : p.cnt ≤ B
  fold0 : 0 ≤ p.fold
  fold1 : p.fold < 2147483648
theorem Pen.Ok.mono {B C : Nat} {p : Pen} (h : p.Ok B) (k : B ≤ C) : p.Ok C := ⟨h.len, h.at0, h.at1, h.dig, h.cnt0, by have := h.cnt1; omega, h.fold0, h.fold1⟩
theorem q1 : ¬ (("cells" : Str) = "at") := by decide +kernel
theorem q2 : ¬ (("cells" : Str) = "digits") := by decide +kernel
theorem q3 : ¬ (("cells" : Str) = "count") := by decide +kernel
theorem q4 : ¬ (("cells" : Str) = "fold") := by decide +kernel
theorem q5 : ¬ (("at" : Str) = "digits") := by decide +kernel
theorem q6 : ¬ (("at" : Str) = "count") := by decide +kernel
theorem q7 : ¬ (("at" : Str) = "fold") := by decide +kernel
theorem q8 : ¬ (("digits" : Str) = "count") := by decide +kernel
theorem q9 : ¬ (("digits" : Str) = "fold") := by decide +kernel
theorem q11 : ¬ (("at" : Str) = "cells") := by decide +kernel
theorem q12 : ¬ (("digits" : Str) = "at") := by decide +kernel
theorem q13 : ¬ (("count" : Str) = "at") := by decide +kernel
theorem q14 : ¬ (("fold" : Str) = "at") := by decide +kernel
theorem q15 : ¬ (("count" : Str) = "digits") := by decide +kernel
theorem q16 : ¬ (("fold" : Str) = "digits") := by decide +kernel
theorem q17 : ¬ (("fold" : Str) = "count") := by decide +kernel
theorem q10 : ¬ (("count" : Str) = "fold") := by decide +kernel
section
variable {c : List Int} {a d n f v : Int}
theorem ix_cells : gIx (penO ⟨c, a, d, n, f⟩) (.sh (.str "cells")) = some (.sh (.lst (c.map D.int))) := by simp [gIx, penO, keyD, valD, keyEq]
theorem ix_at : gIx (penO ⟨c, a, d, n, f⟩) (.sh (.str "at")) = some (.sh (.int a)) := by simp [gIx, penO, keyD, valD, keyEq, q1]
theorem ix_digits : gIx (penO ⟨c, a, d, n, f⟩) (.sh (.str "digits")) = some (.sh (.int d)) := by simp [gIx, penO, keyD, valD, keyEq, q2, q5]
theorem ix_count : gIx (penO ⟨c, a, d, n, f⟩) (.sh (.str "count")) = some (.sh (.int n)) := by simp [gIx, penO, keyD, valD, keyEq, q3, q6, q8]
theorem ix_fold : gIx (penO ⟨c, a, d, n, f⟩) (.sh (.str "fold")) = some (.sh (.int f)) := by simp [gIx, penO, keyD, valD, keyEq, q4, q7, q9, q10]
theorem set_at : setO (penO ⟨c, a, d, n, f⟩) (.sh (.str "at")) (.int v) = some (penO ⟨c, v, d, n, f⟩) := by simp [setO, penO, keyD, putD, keyEq, kD, q1, q12, q13, q14]
theorem set_digits : setO (penO ⟨c, a, d, n, f⟩) (.sh (.str "digits")) (.int v) = some (penO ⟨c, a, v, n, f⟩) := by simp [setO, penO, keyD, putD, keyEq, kD, q2, q5, q15, q16]
theorem set_count : setO (penO ⟨c, a, d, n, f⟩) (.sh (.str "count")) (.int v) = some (penO ⟨c, a, d, v, f⟩) := by simp [setO, penO, keyD, putD, keyEq, kD, q3, q6, q8, q17]
theorem set_fold : setO (penO ⟨c, a, d, n, f⟩) (.sh (.str "fold")) (.int v) = some (penO ⟨c, a, d, n, v⟩) := by simp [setO, penO, keyD, putD, keyEq, kD, q4, q7, q9, q10]
end
theorem ev_pen {ods : List Od} {ρ ρ' : Store} {c : List Int} {a d n f : Int} (h : EvS ods ρ [.str "cells", .lst (c.map .int), .str "at", .int a, .str "digits", .int d, .str "count", .int n, .str "fold", .int f] ρ') : Ev (aDisp ods) ρ (penO ⟨c, a, d, n, f⟩) ρ' := by
  obtain ⟨rs, e, r⟩ := h
  unfold Ev aDisp
  simp only [e, Res.bind, r]
  have e2 : prD (List.map O.sh [.str "cells", .lst (c.map .int), .str "at", .int a, .str "digits", .int d, .str "count", .int n, .str "fold", .int f]) = some [(.inr "cells", .lst (c.map .int)), (.inr "at", .int a), (.inr "digits", .int d), (.inr "count", .int n), (.inr "fold", .int f)] := rfl
  have nd : ([Sum.inr "cells", Sum.inr "at", Sum.inr "digits", Sum.inr "count", Sum.inr "fold"] : List Key).Nodup := by simp [q1, q2, q3, q4, q5, q6, q7, q8, q9, q10]
  rw [e2]
  simp only
  rw [if_pos ⟨nd, by simp⟩]
  rfl
end Den
end
section
/-! Den, part BE: signs, names, kinds: plain. -/
namespace Den
open PySem L2
def al : Str := "abcdefghijklmnopqrstuvwxyz"
theorem al_len : al.cps.toList.length = 26 := by decide +kernel
theorem al_low : ∀ c ∈ al.cps.toList, 97 ≤ c ∧ c ≤ 122 := by decide +kernel
def Lt (z : Str) : Prop := ∀ c ∈ z.cps.toList, 97 ≤ c ∧ c ≤ 122
theorem app_cps (a b : Str) : (a ++ b).cps.toList = a.cps.toList ++ b.cps.toList := by
  show (a.cps ++ b.cps).toList = _
  simp
theorem len_cps (z : Str) : z.length = z.cps.toList.length := by
  show z.cps.size = _
  simp
theorem cut_to_cps (z : Str) (k : Nat) : (cutS z none (some (k : Int))).cps.toList = z.cps.toList.take k := by
  unfold cutS
  rw [HT.sIx_none, HT.sIx_nat, len_cps]
  simp only [List.drop_zero, Nat.sub_zero]
  by_cases h : k ≤ z.cps.toList.length
  · rw [Nat.min_eq_left h]
  · rw [Nat.min_eq_right (by omega), List.take_of_length_le (Nat.le_refl _), List.take_of_length_le (by omega)]
theorem cut_from_cps (z : Str) (k : Nat) : (cutS z (some (k : Int)) none).cps.toList = z.cps.toList.drop k := by
  unfold cutS
  rw [HT.sIx_none, HT.sIx_nat, len_cps]
  by_cases h : k ≤ z.cps.toList.length
  · rw [Nat.min_eq_left h]
    simp only
    rw [List.take_of_length_le (by simp)]
  · rw [Nat.min_eq_right (by omega), Nat.sub_self, List.take_zero, List.drop_of_length_le (by omega)]
theorem gIx_al {k : Nat} (h : k < 26) : ∃ c : Nat, gIx (.sh (.str al)) (.sh (.int (k : Int))) = some (.sh (.str ⟨#[c]⟩)) ∧ 97 ≤ c ∧ c ≤ 122 := by
  have hk : k < al.cps.toList.length := by rw [al_len]; exact h
  have hl : al.length ≤ 16000000 := by rw [len_cps, al_len]; omega
  refine ⟨al.cps.toList[k], ?_, al_low _ (List.getElem_mem hk)⟩
  unfold gIx
  simp only
  rw [if_pos hl, Den.atI_nat, List.getElem?_eq_getElem hk]
  rfl
def dg (i : Nat) : Str := (toString (i : Int) : String)
theorem gStr_small {i : Nat} (h : i ≤ 9) : gStr (.sh (.int (i : Int))) = some (.sh (.str (dg i))) := by
  have h2 : ((i : Int)).natAbs.log2 < 1920 := by
    have : ((i : Int)).natAbs = i := by omega
    rw [this]
    exact Nat.lt_of_le_of_lt (Nat.log2_le_self i) (by omega)
  show (if _ then _ else _) = _
  rw [if_pos h2]
  rfl
theorem dg_facts : ∀ i : Nat, i ≤ 9 → (dg i).cps.toList = [48 + i] := by
  intro i h
  have : i = 0 ∨ i = 1 ∨ i = 2 ∨ i = 3 ∨ i = 4 ∨ i = 5 ∨ i = 6 ∨ i = 7 ∨ i = 8 ∨ i = 9 := by omega
  rcases this with rfl | rfl | rfl | rfl | rfl | rfl | rfl | rfl | rfl | rfl <;> decide +kernel
def Kn (d : D) : Prop := ∃ t, tyN d = some t
def lowC (c : Nat) : Bool := decide (97 ≤ c) && decide (c ≤ 122)
def nmC (c : Nat) : Bool := lowC c || (decide (48 ≤ c) && decide (c ≤ 57))
def hdB : List Nat → Bool
  | c :: _ => lowC c
  | [] => false
def nmB (z : Str) : Bool := decide (1 ≤ z.length) && (decide (z.length ≤ 12) && (hdB z.cps.toList && z.cps.toList.all nmC))
def isN : D → Bool
  | .str z => nmB z
  | _ => false
theorem al_has : ∀ c : Nat, decide (c ∈ al.cps.toList) = lowC c := by
  intro c
  have e : al.cps.toList = (List.range 26).map fun i => 97 + i := by decide +kernel
  rw [e]
  unfold lowC
  rw [← Bool.decide_and, decide_eq_decide, List.mem_map]
  constructor
  · rintro ⟨i, hi, rfl⟩
    have := List.mem_range.mp hi
    omega
  · intro h
    exact ⟨c - 97, List.mem_range.mpr (by omega), by omega⟩
def al36 : Str := "abcdefghijklmnopqrstuvwxyz0123456789"
theorem al36_has : ∀ c : Nat, decide (c ∈ al36.cps.toList) = nmC c := by
  intro c
  have e : al36.cps.toList = ((List.range 26).map fun i => 97 + i) ++ (List.range 10).map fun i => 48 + i := by decide +kernel
  rw [e]
  unfold nmC lowC
  rw [← Bool.decide_and, ← Bool.decide_and, ← Bool.decide_or, decide_eq_decide, List.mem_append, List.mem_map, List.mem_map]
  constructor
  · rintro (⟨i, hi, rfl⟩ | ⟨i, hi, rfl⟩) <;> have := List.mem_range.mp hi <;> omega
  · rintro (h | h)
    · exact .inl ⟨c - 97, List.mem_range.mpr (by omega), by omega⟩
    · exact .inr ⟨c - 48, List.mem_range.mpr (by omega), by omega⟩
theorem len12 {z : Str} (h : 1 ≤ z.length) : ∃ c r, z.cps.toList = c :: r := by
  rw [len_cps] at h
  match hz : z.cps.toList with
  | [] => rw [hz] at h; simp at h
  | c :: r => exact ⟨c, r, rfl⟩
def upC (c : Nat) : Bool := decide (65 ≤ c) && decide (c ≤ 90)
theorem uni_all : ((List.range 128).all fun c => (Unicode.isAlnum c == (nmC c || upC c)) && ((Unicode.isAlpha c == (lowC c || upC c)) && ((Unicode.isLower c == lowC c) && ((Unicode.isUpper c == upC c) && (Unicode.isTitle c == false))))) = true := by decide +kernel
theorem uni {c : Nat} (h : c < 128) : Unicode.isAlnum c = (nmC c || upC c) ∧ Unicode.isAlpha c = (lowC c || upC c) ∧ Unicode.isLower c = lowC c ∧ Unicode.isUpper c = upC c ∧ Unicode.isTitle c = false := by
  have := List.all_eq_true.mp uni_all c (List.mem_range.mpr h)
  simp only [Bool.and_eq_true, beq_iff_eq] at this
  exact this
theorem low_up {c : Nat} : lowC c = true → upC c = false := by
  unfold lowC upC
  intro h
  rw [Bool.and_eq_true, decide_eq_true_eq, decide_eq_true_eq] at h
  rw [Bool.and_eq_false_iff, decide_eq_false_iff_not, decide_eq_false_iff_not]
  omega
theorem nm_up {c : Nat} : nmC c = true → upC c = false ∧ c < 128 := by
  unfold nmC lowC upC
  intro h
  rw [Bool.or_eq_true, Bool.and_eq_true, Bool.and_eq_true, decide_eq_true_eq, decide_eq_true_eq, decide_eq_true_eq, decide_eq_true_eq] at h
  rw [Bool.and_eq_false_iff, decide_eq_false_iff_not, decide_eq_false_iff_not]
  omega
theorem name_agree (c : Nat) (r : List Nat) : ((c :: r).all (fun c => decide (c < 128)) && ((c :: r).all Unicode.isAlnum && (((c :: r).any Unicode.isLower && !(c :: r).any fun c => Unicode.isUpper c || Unicode.isTitle c) && Unicode.isAlpha c))) = (lowC c && (c :: r).all nmC) := by
  rw [Bool.eq_iff_iff]
  simp only [Bool.and_eq_true, Bool.not_eq_true', List.all_eq_true, decide_eq_true_eq]
  constructor
  · rintro ⟨h1, h2, ⟨h3, h4⟩, h5⟩
    have nu : ∀ x ∈ c :: r, upC x = false := fun x hx => by
      have := List.any_eq_false.mp h4 x hx
      rw [(uni (h1 x hx)).2.2.2.1] at this
      cases hu : upC x with
      | false => rfl
      | true => rw [hu] at this; simp at this
    refine ⟨?_, fun x hx => ?_⟩
    · rw [(uni (h1 c (by simp))).2.1, nu c (by simp), Bool.or_false] at h5
      exact h5
    · have := h2 x hx
      rw [(uni (h1 x hx)).1, nu x hx, Bool.or_false] at this
      exact this
  · rintro ⟨h1, h2⟩
    have lt : ∀ x ∈ c :: r, x < 128 := fun x hx => (nm_up (h2 x hx)).2
    refine ⟨lt, fun x hx => ?_, ⟨?_, ?_⟩, ?_⟩
    · rw [(uni (lt x hx)).1, h2 x hx]; rfl
    · exact List.any_eq_true.mpr ⟨c, by simp, by rw [(uni (lt c (by simp))).2.2.1]; exact h1⟩
    · refine List.any_eq_false.mpr fun x hx => ?_
      rw [(uni (lt x hx)).2.2.2.1, (uni (lt x hx)).2.2.2.2, (nm_up (h2 x hx)).1]
      simp
    · rw [(uni (lt c (by simp))).2.1, h1]; rfl
theorem all_cps (z : Str) (p : Nat → Bool) : z.cps.all p = z.cps.toList.all p := by rw [← Array.all_toList]
theorem any_cps (z : Str) (p : Nat → Bool) : z.cps.any p = z.cps.toList.any p := by rw [← Array.any_toList]
/-- a name drawn for the index i -/
def Nm (i : Nat) (x : Str) : Prop := ∃ a b : Str, x = a ++ dg i ++ b ∧ Lt a ∧ Lt b ∧ 1 ≤ a.length ∧ a.length + b.length ≤ 8
theorem nm_cps {i : Nat} {x : Str} (hi : i ≤ 9) (h : Nm i x) : x.cps.toList.filter (fun c => decide (c < 97)) = [48 + i] := by
  obtain ⟨a, b, rfl, ha, hb, _⟩ := h
  rw [app_cps, app_cps, List.filter_append, List.filter_append, dg_facts i hi]
  have z : ∀ s : Str, Lt s → s.cps.toList.filter (fun c => decide (c < 97)) = [] := fun s hs => List.filter_eq_nil_iff.mpr fun c hc => by
    have := hs c hc
    simp
    omega
  rw [z a ha, z b hb]
  have : decide (48 + i < 97) = true := by simp; omega
  simp [List.filter, this]
theorem nm_ne {i j : Nat} {x y : Str} (hi : i ≤ 9) (hj : j ≤ 9) (hx : Nm i x) (hy : Nm j y) (h : i ≠ j) : x ≠ y := by
  intro e
  have h1 := nm_cps hi hx
  have h2 := nm_cps hj hy
  rw [e, h2] at h1
  have := List.head_eq_of_cons_eq h1
  omega
theorem nm_low {i : Nat} {x : Str} (hi : i ≤ 9) (h : Nm i x) : ∀ c ∈ x.cps.toList, 48 ≤ c ∧ c ≤ 122 := by
  obtain ⟨a, b, rfl, ha, hb, _⟩ := h
  intro c hc
  rw [app_cps, app_cps, dg_facts i hi] at hc
  rcases List.mem_append.mp hc with hc | hc
  · rcases List.mem_append.mp hc with hc | hc
    · have := ha c hc; omega
    · have : c = 48 + i := by simpa using hc
      omega
  · have := hb c hc; omega
theorem lt_nm {z : Str} (h : Lt z) : z.cps.toList.all nmC = true := List.all_eq_true.mpr fun c hc => by
  have := h c hc
  simp [nmC, lowC, this.1, this.2]
theorem dg_len {i : Nat} (hi : i ≤ 9) : (dg i).length = 1 := by rw [len_cps, dg_facts i hi]; rfl
theorem nm_name {i : Nat} {x : Str} (hi : i ≤ 9) (h : Nm i x) : nmB x = true := by
  obtain ⟨a, b, rfl, ha, hb, h1, h2⟩ := h
  have hl : (a ++ dg i ++ b).length = a.length + 1 + b.length := by
    rw [len_cps, app_cps, app_cps, List.length_append, List.length_append, ← len_cps, ← len_cps, ← len_cps, dg_len hi]
  unfold nmB
  rw [hl, decide_eq_true (by omega), decide_eq_true (by omega), Bool.true_and, Bool.true_and, app_cps, app_cps]
  obtain ⟨c, r, e⟩ := len12 h1
  have hc := ha c (by rw [e]; simp)
  rw [List.all_append, List.all_append, lt_nm ha, lt_nm hb, dg_facts i hi, e]
  simp only [List.cons_append, hdB, List.all_cons, List.all_nil, Bool.and_true, Bool.true_and]
  rw [Bool.and_eq_true]
  refine ⟨by simp [lowC, hc.1, hc.2], ?_⟩
  unfold nmC
  rw [Bool.or_eq_true]
  right
  simp
  omega
theorem ok_low {x : Str} (h : ∀ c ∈ x.cps.toList, c ≤ 122) : okS x := by
  show x.cps.all (fun c => decide (c < 0x110000)) = true
  rw [← Array.all_toList, List.all_eq_true]
  intro c hc
  have := h c hc
  exact decide_eq_true (by omega)
theorem name_ok {x : Str} (h : nmB x = true) : okS x ∧ 1 ≤ x.length ∧ x.length ≤ 12 := by
  unfold nmB at h
  simp only [Bool.and_eq_true, decide_eq_true_eq] at h
  refine ⟨ok_low fun c hc => ?_, h.1, h.2.1⟩
  have := List.all_eq_true.mp h.2.2.2 c hc
  unfold nmC lowC at this
  simp at this
  omega
theorem nmodup {w : List Str} (hl : w.length ≤ 10) (h : ∀ k x, w[k]? = some x → Nm k x) : w.Nodup := by
  show w.Pairwise _
  rw [List.pairwise_iff_getElem]
  intro i j hi hj hij
  exact nm_ne (by omega) (by omega) (h i _ (List.getElem?_eq_getElem hi)) (h j _ (List.getElem?_eq_getElem hj)) (by omega)
/-- what the program's tests of a name tell together -/
theorem txt_name {z : Str} {c : Nat} {r : List Nat} (hcr : z.cps.toList = c :: r) : (Txt.isascii z && (Txt.isalnum z && (Txt.islower z && Txt.isalpha ⟨#[c]⟩))) = (lowC c && z.cps.toList.all nmC) := by
  have hl : 1 ≤ z.length := by rw [len_cps, hcr]; simp
  have a1 : Txt.isascii z = (c :: r).all fun c => decide (c < 128) := by
    show z.cps.all _ = _
    rw [all_cps, hcr]
  have a2 : Txt.isalnum z = (c :: r).all Unicode.isAlnum := by
    show (decide (z.length > 0) && z.cps.all Unicode.isAlnum) = _
    rw [decide_eq_true (by omega), Bool.true_and, all_cps, hcr]
  have a3 : Txt.islower z = ((c :: r).any Unicode.isLower && !(c :: r).any fun c => Unicode.isUpper c || Unicode.isTitle c) := by
    show (z.cps.any Unicode.isLower && !z.cps.any _) = _
    rw [any_cps, any_cps, hcr]
  have a4 : Txt.isalpha ⟨#[c]⟩ = Unicode.isAlpha c := by
    show (decide (1 > 0) && (#[c] : Array Nat).all Unicode.isAlpha) = _
    simp
  rw [a1, a2, a3, a4, name_agree, hcr]
theorem nmB_eq {z : Str} {c : Nat} {r : List Nat} (hcr : z.cps.toList = c :: r) : nmB z = (decide (z.length ≤ 12) && (lowC c && z.cps.toList.all nmC)) := by
  have hl : 1 ≤ z.length := by rw [len_cps, hcr]; simp
  unfold nmB
  rw [decide_eq_true hl, hcr]
  rfl
theorem nmB_0 {z : Str} (h : ¬ 1 ≤ z.length) : nmB z = false := by
  unfold nmB
  rw [decide_eq_false h]
  rfl
theorem nmB_12 {z : Str} (h : ¬ z.length ≤ 12) : nmB z = false := by
  unfold nmB
  rw [decide_eq_false h]
  simp
/-- a whole number within bounds -/
def whB (lo : Int) : D → Bool
  | .int i => decide (lo ≤ i)
  | _ => false
def whB2 (lo hi : Int) : D → Bool
  | .int i => decide (lo ≤ i) && decide (i ≤ hi)
  | _ => false
theorem gIx_al' {k : Nat} (h : k < 26) : ∃ c : Nat, gIx (.sh (.str "abcdefghijklmnopqrstuvwxyz")) (.sh (.int (k : Int))) = some (.sh (.str ⟨#[c]⟩)) ∧ 97 ≤ c ∧ c ≤ 122 := gIx_al h
theorem len1 {c : Nat} : (⟨#[c]⟩ : Str).length = 1 := rfl
theorem lt_app {z : Str} {c : Nat} (h : Lt z) (h1 : 97 ≤ c) (h2 : c ≤ 122) : Lt (z ++ ⟨#[c]⟩) := by
  intro d hd
  rw [app_cps] at hd
  rcases List.mem_append.mp hd with hd | hd
  · exact h d hd
  · have : d = c := by simpa using hd
    omega
theorem lt_nil : Lt "" := fun c hc => by
  have : (("" : Str)).cps.toList = [] := rfl
  rw [this] at hc
  cases hc
theorem len_app (a b : Str) : (a ++ b).length = a.length + b.length := by rw [len_cps, app_cps, List.length_append, ← len_cps, ← len_cps]
theorem cut_split {z : Str} (k : Nat) (h : Lt z) : Lt (cutS z none (some (k : Int))) ∧ Lt (cutS z (some (k : Int)) none) := by
  refine ⟨fun c hc => ?_, fun c hc => ?_⟩
  · rw [cut_to_cps] at hc
    exact h c (List.mem_of_mem_take hc)
  · rw [cut_from_cps] at hc
    exact h c (List.mem_of_mem_drop hc)
theorem cut_len_to (z : Str) (k : Nat) : (cutS z none (some (k : Int))).length = min k z.length := by rw [len_cps, cut_to_cps, List.length_take, ← len_cps]
theorem cut_len_from (z : Str) (k : Nat) : (cutS z (some (k : Int)) none).length = z.length - k := by rw [len_cps, cut_from_cps, List.length_drop, ← len_cps]
theorem strs_any : ∀ {vs : List D}, (∀ v ∈ vs, ∃ x, v = .str x) → ∃ w : List Str, vs = w.map D.str
  | [], _ => ⟨[], rfl⟩
  | v :: vs, h => by
    obtain ⟨x, rfl⟩ := h v (by simp)
    obtain ⟨w, rfl⟩ := strs_any (vs := vs) fun u hu => h u (List.mem_cons_of_mem _ hu)
    exact ⟨x :: w, rfl⟩
/-- what is told by an embedding, in another order -/
theorem perm_map {α : Type} {em : α → D} {es : List D} {w : List α} (h : es.Perm (w.map em)) : ∃ xs : List α, es = xs.map em ∧ xs.Perm w := by
  suffices ∀ {es fs : List D}, es.Perm fs → ∀ w : List α, fs = w.map em → ∃ xs : List α, es = xs.map em ∧ xs.Perm w from this h w rfl
  intro es fs h
  induction h with
  | nil =>
    intro w e
    have : w = [] := by simpa using e.symm
    subst this
    exact ⟨[], rfl, .refl _⟩
  | cons x _ ih =>
    intro w e
    match w, e with
    | y :: w, e =>
      simp only [List.map_cons, List.cons.injEq] at e
      obtain ⟨e1, e2⟩ := e
      subst e1
      obtain ⟨xs, rfl, p⟩ := ih w e2
      exact ⟨y :: xs, rfl, p.cons y⟩
  | swap x y l =>
    intro w e
    match w, e with
    | [a], e => simp at e
    | a :: b :: w, e =>
      simp only [List.map_cons, List.cons.injEq] at e
      obtain ⟨e1, e2, e3⟩ := e
      subst e1 e2 e3
      exact ⟨b :: a :: w, rfl, .swap a b w⟩
  | trans _ _ i1 i2 =>
    intro w e
    obtain ⟨xs, rfl, p⟩ := i2 w e
    obtain ⟨ys, rfl, q⟩ := i1 xs rfl
    exact ⟨ys, rfl, q.trans p⟩
theorem strs_perm {es : List D} {w : List Str} (h : es.Perm (w.map D.str)) : ∃ xs : List Str, es = xs.map D.str ∧ xs.Perm w := perm_map h
theorem not_lt_dec (a b : Int) : (!decide (a < b)) = decide (b ≤ a) := by
  by_cases h : a < b
  · rw [decide_eq_true h, decide_eq_false (by omega)]; rfl
  · rw [decide_eq_false h, decide_eq_true (by omega)]; rfl
end Den
end
section
/-! Den, part BF: comprehensions and loops that draw. -/
namespace Den
open PySem L2
theorem lc_pen_go {α : Type} {em : α → D} {ge : aE} {vs : List Nat} {tg : aG} {c : Nat} {Pv : α → D → Prop} (st : Pen → Store) (σ : α → Pen → Store) : ∀ {xs : List α} {B : Nat} {p : Pen}, (∀ x p, x ∈ xs → Tg tg (em x) (st p) (σ x p)) → (∀ x p, x ∈ xs → Clr vs (σ x p) (st p)) → p.Ok B → B + c * xs.length < 1099511627000 →
    (∀ x p B, x ∈ xs → p.Ok B → B + c < 1099511627000 → ∃ (o : O) (v : D) (p' : Pen), Ev ge (σ x p) o (σ x p') ∧ Fz o v ∧ Pv x v ∧ p'.Ok (B + c)) →
    ∃ (ds : List D) (p' : Pen), lcL vs tg aYes ge (xs.map em) (st p) = .ok ds (st p') ∧ ds.length = xs.length ∧ (∀ (k : Nat) (x : α) (v : D), xs[k]? = some x → ds[k]? = some v → Pv x v) ∧ p'.Ok (B + c * xs.length)
  | [], B, p, _, _, hp, _, _ => ⟨[], p, rfl, rfl, (fun k x v h => by simp at h), hp⟩
  | a :: xs, B, p, h1, h2, hp, hB, hg => by
    rw [List.length_cons, Nat.mul_add, Nat.mul_one] at hB
    obtain ⟨o, v, p1, e, ef, pv, hp1⟩ := hg a p B (by simp) hp (by omega)
    obtain ⟨ds, p', e2, hl, hv, hp'⟩ := lc_pen_go (c := c) (Pv := Pv) st σ (xs := xs) (B := B + c) (p := p1) (fun x p m => h1 x p (by simp [m])) (fun x p m => h2 x p (by simp [m])) hp1 (by omega) (fun x p B m => hg x p B (by simp [m]))
    refine ⟨v :: ds, p', ?_, by simp [hl], fun k x u hx hu => ?_, by rw [List.length_cons, Nat.mul_add, Nat.mul_one]; exact hp'.mono (by omega)⟩
    · have t1 := h1 a p (by simp)
      have t2 := h2 a p1 (by simp)
      unfold Tg at t1
      unfold Clr at t2
      unfold Ev at e
      unfold Fz at ef
      rw [List.map_cons, lcL, t1]
      simp only [aYes, Res.bind, if_true, e]
      rw [t2, e2]
      simp only [ef]
    · cases k with
      | zero =>
        simp only [List.getElem?_cons_zero, Option.some.injEq] at hx hu
        subst hx hu
        exact pv
      | succ k =>
        simp only [List.getElem?_cons_succ] at hx hu
        exact hv k x u hx hu
/-- a comprehension that draws at each turn -/
theorem lc_pen {α : Type} {em : α → D} {ge : aE} {vs : List Nat} {tg : aG} {c B : Nat} {p : Pen} {Pv : α → D → Prop} {src : aI} {ρ : Store} {xs : List α} {ds0 : List D} (st : Pen → Store) (σ : α → Pen → Store) (hs : EvI src ρ ds0 (st p)) (hm : Mp ds0 xs em) (hl : xs.length ≤ 16000000) (h1 : ∀ x p, x ∈ xs → Tg tg (em x) (st p) (σ x p)) (h2 : ∀ x p, x ∈ xs → Clr vs (σ x p) (st p)) (h3 : ∀ p, wipeS (st p) vs = st p) (hr : ∀ p p', restS (st p) vs (st p') = st p') (hp : p.Ok B) (hB : B + c * xs.length < 1099511627000)
    (hg : ∀ x p B, x ∈ xs → p.Ok B → B + c < 1099511627000 → ∃ (o : O) (v : D) (p' : Pen), Ev ge (σ x p) o (σ x p') ∧ Fz o v ∧ Pv x v ∧ p'.Ok (B + c)) :
    ∃ (ds : List D) (p' : Pen), Ev (aLc src vs tg aYes ge) ρ (oL ds) (st p') ∧ ds.length = xs.length ∧ (∀ (k : Nat) (x : α) (v : D), xs[k]? = some x → ds[k]? = some v → Pv x v) ∧ p'.Ok (B + c * xs.length) := by
  obtain ⟨ds, p', e, hl2, hv, hp'⟩ := lc_pen_go (vs := vs) (tg := tg) st σ h1 h2 hp hB hg
  refine ⟨ds, p', ?_, hl2, hv, hp'⟩
  have w := h3 p
  unfold EvI at hs
  unfold Mp at hm
  subst hm
  unfold Ev aLc
  simp only [hs, Res.bind, List.length_map]
  rw [if_pos hl, w, e]
  simp only
  rw [hr]
  rfl
end Den
end
section
/-! Den, part BG: objects, errors, dicts with tuple keys: the rules. -/
namespace Den
open PySem L2
section
variable {i j n c k : Nat} {ρ ρ' ρ1 ρ2 ρ3 ρw : Store} {d e : D} {ds es : List D} {o x y z w o' : O} {os os' : List O} {g h gk gv : aE} {od oe : Od} {ods : List Od} {rs : List Rv} {p q : aT} {b : Bool} {src : aI} {vs : List Nat} {tg : aG} {K : Out → Prop} {r s t : aS} {f f1 f2 f3 : Str} {m : Str} {den : aF} {X : Xn}
/-! fields -/
theorem lk_hit {α : Type} {a : α} {l : List (Str × α)} : List.lookup f ((f, a) :: l) = some a := by simp [List.lookup]
theorem lk_miss {α : Type} {a : α} {u : Option α} {l : List (Str × α)} (hn : (f == f1) = false) (h2 : List.lookup f l = u) : List.lookup f ((f1, a) :: l) = u := by rw [List.lookup, hn]; exact h2
theorem lk_nil {α : Type} : List.lookup f ([] : List (Str × α)) = none := rfl
def Fa (fs : List (Str × O)) (f : Str) (d : D) (fs' : List (Str × O)) : Prop := fs ++ [(f, .sh d)] = fs'
theorem fa_0 : Fa [] f d [(f, .sh d)] := rfl
theorem fa_s {u : Str × O} {fs fs' : List (Str × O)} (h : Fa fs f d fs') : Fa (u :: fs) f d (u :: fs') := by unfold Fa at *; rw [← h]; rfl
def FzFs (fs : List (Str × O)) (es : List (Str × D)) : Prop := fzFs fs = es
theorem fzs_0 : FzFs [] [] := rfl
theorem fzs_s {fs : List (Str × O)} {es : List (Str × D)} (h : FzFs fs es) : FzFs ((f, .sh d) :: fs) ((f, d) :: es) := by unfold FzFs at *; rw [fzFs, h, fz]
theorem fz_o {fs : List (Str × O)} {es : List (Str × D)} (h : FzFs fs es) : Fz (.obj c fs) (.obj c es) := by unfold Fz FzFs at *; rw [fz, h]
theorem pws_fld {fs fs' : List (Str × O)} (h1 : Ev g ρ o ρ1) (hf : Fz o d) (h2 : At ρ1 i (.obj c fs)) (h3 : Sz (fs.length < 1000)) (h4 : List.lookup f fs = none) (h5 : Fa fs f d fs') (h6 : St ρ1 i (some (.obj c fs')) ρ2) (h : Pw K (r ρ2)) : Pw K (sSeq (sFldP i c f g) r ρ) := by
  unfold sSeq sFldP; unfold Ev at h1; unfold At at h2; unfold Fz at hf; unfold Fa at h5
  rw [h1]
  simp only [Res.out, h2, hf]
  rw [if_pos ⟨trivial, h3.go, h4⟩, h5, ← h6.2]
  exact h
theorem op_fld {fs : List (Str × D)} (h : List.lookup f fs = some d) : gFld c f (.sh (.obj c fs)) = some (.sh d) := by
  show (if c = c then (fs.lookup f).map O.sh else none) = _
  rw [if_pos rfl, h]
  rfl
theorem op_fldO {fs : List (Str × O)} (h : List.lookup f fs = some (.sh d)) : gFld c f (.obj c fs) = some (.sh d) := by
  show (if c = c then _ else _) = _
  rw [if_pos rfl, h]
theorem isC_o {fs : List (Str × D)} : gIsC c (.sh (.obj c fs)) = some (.sh (.bl true)) := by unfold gIsC; rw [fz]; simp
theorem isC_t : gIsC c (.sh (.tup ds)) = some (.sh (.bl false)) := by unfold gIsC; rw [fz]; rfl
theorem isC_l : gIsC c (.sh (.lst ds)) = some (.sh (.bl false)) := by unfold gIsC; rw [fz]; rfl
theorem isC_i {s : Int} : gIsC c (.sh (.int s)) = some (.sh (.bl false)) := by unfold gIsC; rw [fz]; rfl
theorem isC_s {a : Str} : gIsC c (.sh (.str a)) = some (.sh (.bl false)) := by unfold gIsC; rw [fz]; rfl
theorem isC_n : gIsC c (.sh .non) = some (.sh (.bl false)) := by unfold gIsC; rw [fz]; rfl
theorem isC_b : gIsC c (.sh (.bl b)) = some (.sh (.bl false)) := by unfold gIsC; rw [fz]; rfl
/-! made, called -/
theorem ev_new (h1 : EvA ods ρ rs ρ1) (h2 : Tak ρ1 rs os ρ2) (h3 : den (.obj c [] :: os) = .ret (.sh .non) (o' :: os')) (h4 : Giv ρ2 rs os' ρ3) (hn : Lis rs n) : Ev (aNew c n ods den) ρ o' ρ3 := by
  have l1 := tak_len h2
  have l2 := h4.1
  unfold Lis at hn
  unfold EvA at h1
  unfold Tak at h2
  unfold Ev aNew
  simp only [h1, Res.bind, h2, h3]
  rw [if_pos (by omega), if_pos (by omega), h4.2]
theorem evx_new (h1 : EvA ods ρ rs ρ1) (h2 : Tak ρ1 rs os ρ2) (h3 : den (.obj c [] :: os) = .exc X (o' :: os')) (h4 : Giv ρ2 rs os' ρ3) (hn : Lis rs n) : EvX (aNew c n ods den) ρ X ρ3 := by
  have l1 := tak_len h2
  have l2 := h4.1
  unfold Lis at hn
  unfold EvA at h1
  unfold Tak at h2
  unfold EvX aNew
  simp only [h1, Res.bind, h2, h3]
  rw [if_pos (by omega), if_pos (by omega), h4.2]
theorem evx_call (h1 : EvA ods ρ rs ρ1) (h2 : Tak ρ1 rs os ρ2) (h3 : den os = .exc X os') (h4 : Giv ρ2 rs os' ρ3) (hn : Lis rs n) : EvX (aCall n ods [] den) ρ X ρ3 := by
  have l1 := tak_len h2
  have l2 := h4.1
  unfold Lis at hn
  unfold EvA at h1
  unfold Tak at h2
  unfold EvX aCall
  simp only [h1, Res.bind, h2, List.length_nil, Nat.add_zero, List.map_nil, List.append_nil, h3]
  rw [if_pos (by omega), if_pos (by omega), h4.2]
theorem ev_mth {fs : List (Str × D)} (h0 : Ev g ρ (.sh (.obj c fs)) ρ') (hf : List.lookup m fs = none) (h1 : EvA ods ρ' rs ρ1) (h2 : Tak ρ1 rs os ρ2) (h3 : den (.sh (.obj c fs) :: os) = .ret w (o' :: os')) (h4 : Giv ρ2 rs os' ρ3) (hn : Lis rs n) : Ev (aMth c m n g ods den) ρ w ρ3 := by
  have l1 := tak_len h2
  have l2 := h4.1
  unfold Lis at hn
  unfold EvA at h1
  unfold Tak at h2
  unfold Ev at h0
  unfold Ev aMth
  simp only [h0, Res.bind]
  rw [if_pos ⟨trivial, hf⟩]
  simp only [h1, Res.bind, h2, h3]
  rw [if_pos (by omega), if_pos (by omega), h4.2]
/-! what is raised on the way -/
def XA (ods : List Od) (ρ : Store) (X : Xn) (ρ' : Store) : Prop := evA ods ρ = .exc X ρ'
theorem xa_x (h : EvX g ρ X ρ') : XA (.ex g :: ods) ρ X ρ' := by
  unfold XA; unfold EvX at h
  rw [evA, h]; rfl
theorem xa_s (h1 : Ev g ρ o ρ1) (h : XA ods ρ1 X ρ') : XA (.ex g :: ods) ρ X ρ' := by
  unfold XA at *; unfold Ev at h1
  rw [evA, h1]; simp only [Res.bind, h]
theorem xa_p (h1 : Fu ρ i) (h : XA ods ρ X ρ') : XA (.pl i :: ods) ρ X ρ' := by
  obtain ⟨o, ho⟩ := h1
  unfold XA at *
  rw [evA, ho]; simp only [Res.bind, h]
theorem evx_fz (h : EvX g ρ X ρ') : EvX (aFz g) ρ X ρ' := by
  unfold EvX at *; unfold aFz; simp only [h, Res.bind]
theorem evx_op {l : List O → Option O} (h : XA ods ρ X ρ') : EvX (aOp ods l) ρ X ρ' := by
  unfold EvX XA at *; unfold aOp; simp only [h, Res.bind]
theorem evx_args {dds : List D} (h : XA ods ρ X ρ') : EvX (aCall n ods dds den) ρ X ρ' := by
  unfold EvX XA at *; unfold aCall; simp only [h, Res.bind]
theorem evx_nargs (h : XA ods ρ X ρ') : EvX (aNew c n ods den) ρ X ρ' := by
  unfold EvX XA at *; unfold aNew; simp only [h, Res.bind]
/-! raise -/
theorem raise_go {fields : List Str} {fs : List (Str × D)} (h1 : EvS ods ρ ds ρ1) (h2 : Sz (ds.length = fields.length ∧ ds.length ≤ 10)) (h3 : (fields.zip ds).reverse = fs) (h : Pw K (.exc ⟨.own c, some fs⟩ ρ1)) : Pw K (sSeq (sRaise c fields ods) r ρ) := by
  obtain ⟨rs, e, q⟩ := h1
  unfold sSeq sRaise
  simp only [e, Res.out, q, shs_map]
  rw [if_pos h2.go, h3]
  exact h
theorem pws_raise1 (h1 : EvS ods ρ [d] ρ1) (h : Pw K (.exc ⟨.own c, some [(f1, d)]⟩ ρ1)) : Pw K (sSeq (sRaise c [f1] ods) r ρ) := raise_go h1 ⟨rfl, by simp⟩ rfl h
theorem pws_raise2 (h1 : EvS ods ρ [d, e] ρ1) (h : Pw K (.exc ⟨.own c, some [(f2, e), (f1, d)]⟩ ρ1)) : Pw K (sSeq (sRaise c [f1, f2] ods) r ρ) := raise_go h1 ⟨rfl, by simp⟩ rfl h
theorem pws_raise3 {u : D} (h1 : EvS ods ρ [d, e, u] ρ1) (h : Pw K (.exc ⟨.own c, some [(f3, u), (f2, e), (f1, d)]⟩ ρ1)) : Pw K (sSeq (sRaise c [f1, f2, f3] ods) r ρ) := raise_go h1 ⟨rfl, by simp⟩ rfl h
/-! try .. except C as e: found = [..] -/
def TryK (c i j : Nat) (its : List It) (K : Out → Prop) (r : aS) : Out → Prop
  | .nx ρ => Pw K (r ρ)
  | .brk ρ => Pw K (.brk ρ)
  | .ct ρ => Pw K (.ct ρ)
  | .ret o ρ => Pw K (.ret o ρ)
  | .exc x ρ => ∃ fs ds, x = ⟨.own c, some fs⟩ ∧ itD fs its = some ds ∧ i < ρ.length ∧ j < ρ.length ∧ its.length ≤ 100 ∧ Pw K (r ((ρ.set i none).set j (some (oL ds))))
  | .stuck => False
theorem pws_tryF {its : List It} {s : aS} (h : Pw (TryK c i j its K r) (s ρ)) : Pw K (sSeq (sTryF s c i j its) r ρ) := by
  unfold sSeq sTryF
  cases e : s ρ with
  | nx ρ' => rw [e] at h; exact h
  | brk ρ' => rw [e] at h; exact h
  | ct ρ' => rw [e] at h; exact h
  | ret o ρ' => rw [e] at h; exact h
  | stuck => rw [e] at h; exact h.elim
  | exc x ρ' =>
    rw [e] at h
    obtain ⟨fs, ds, rfl, h1, h2, h3, h4, h5⟩ := h
    simp only [h1]
    rw [if_pos ⟨trivial, h2, h3, h4⟩]
    exact h5
theorem tk_nx {its : List It} (h : Pw K (r ρ)) : Pw (TryK c i j its K r) (.nx ρ) := h
theorem tk_ret {its : List It} (h : Pw K (.ret o ρ)) : Pw (TryK c i j its K r) (.ret o ρ) := h
def ItS (fs : List (Str × D)) (its : List It) (ds : List D) : Prop := itD fs its = some ds
theorem its_0 {fs : List (Str × D)} : ItS fs [] [] := rfl
theorem its_c {fs : List (Str × D)} {its : List It} (h : ItS fs its ds) : ItS fs (.c d :: its) (d :: ds) := by unfold ItS at *; rw [itD, h]; rfl
theorem its_f {fs : List (Str × D)} {its : List It} (h1 : List.lookup f fs = some d) (h : ItS fs its ds) : ItS fs (.f f :: its) (d :: ds) := by unfold ItS at *; rw [itD, h1, h]; rfl
theorem tk_exc {its : List It} {fs : List (Str × D)} (h1 : ItS fs its ds) (h2 : Sz (its.length ≤ 100)) (h3 : St ρ i none ρ1) (h4 : St ρ1 j (some (oL ds)) ρ2) (h : Pw K (r ρ2)) : Pw (TryK c i j its K r) (.exc ⟨.own c, some fs⟩ ρ) := by
  have l : j < ρ.length := by have := h4.1; rw [h3.2, List.length_set] at this; exact this
  refine ⟨fs, ds, rfl, h1, h3.1, l, h2.go, ?_⟩
  rw [← h3.2, ← h4.2]
  exact h
/-! dicts whose keys are tuples -/
/-- a dict made item by item -/
def dcAll {α : Type} (kf : α → List Key) (vf : α → D) : List α → List (D × O) → List (D × O)
  | [], acc => acc
  | x :: xs, acc => dcAll kf vf xs (putT acc (kf x) (.sh (vf x)))
theorem putT_len (kvs : List (D × O)) (k : List Key) (o : O) : (putT kvs k o).length ≤ kvs.length + 1 := by
  unfold putT
  split <;> simp
theorem dcL_go {α : Type} {em : α → D} {σ : α → Store} {kd : α → D} {kf : α → List Key} {gn : α → O} {vf : α → D} : ∀ {xs : List α} {acc : List (D × O)}, acc.length + xs.length ≤ 16000000 → (∀ x ∈ xs, Tg tg (em x) ρw (σ x)) → (∀ x ∈ xs, Ev gk (σ x) (.sh (kd x)) (σ x)) → (∀ x ∈ xs, keyT (kd x) = some (kf x)) → (∀ x ∈ xs, Ev gv (σ x) (gn x) (σ x)) → (∀ x, Fz (gn x) (vf x)) → (∀ x ∈ xs, Clr vs (σ x) ρw) →
    dcL vs tg aYes gk gv (xs.map em) acc ρw = .ok (dcAll kf vf xs acc) ρw
  | [], acc, _, _, _, _, _, _, _ => rfl
  | a :: xs, acc, hl, h1, h2, h3, h4, h5, h6 => by
    rw [List.length_cons] at hl
    have e1 := h1 a (by simp)
    have e2 := h2 a (by simp)
    have e3 := h3 a (by simp)
    have e4 := h4 a (by simp)
    have e5 := h5 a
    have e6 := h6 a (by simp)
    unfold Tg at e1
    unfold Ev at e2 e4
    unfold Fz at e5
    unfold Clr at e6
    have pl := putT_len acc (kf a) (.sh (vf a))
    have ih := dcL_go (acc := putT acc (kf a) (.sh (vf a))) (xs := xs) (by omega) (fun x m => h1 x (by simp [m])) (fun x m => h2 x (by simp [m])) (fun x m => h3 x (by simp [m])) (fun x m => h4 x (by simp [m])) h5 (fun x m => h6 x (by simp [m]))
    rw [List.map_cons, dcL, e1]
    simp only [aYes, Res.bind, if_true, e2, e4, e3]
    rw [if_pos (by omega), e5, e6]
    exact ih
theorem ev_dcT {α : Type} {xs : List α} {em : α → D} {σ : α → Store} {kd : α → D} {kf : α → List Key} {gn : α → O} {vf : α → D} (hs : EvI src ρ ds ρ1) (hm : Mp ds xs em) (hl : Sz (xs.length ≤ 16000000)) (hw : Clr vs ρ1 ρw) (h1 : ∀ x ∈ xs, Tg tg (em x) ρw (σ x)) (h2 : ∀ x ∈ xs, Ev gk (σ x) (.sh (kd x)) (σ x)) (h3 : ∀ x ∈ xs, keyT (kd x) = some (kf x)) (h4 : ∀ x ∈ xs, Ev gv (σ x) (gn x) (σ x)) (h5 : ∀ x, Fz (gn x) (vf x)) (h6 : ∀ x ∈ xs, Clr vs (σ x) ρw) :
    Ev (aDcT src vs tg aYes gk gv) ρ (.dit (dcAll kf vf xs [])) ρ1 := by
  have hl' := hl.go
  unfold Mp at hm
  unfold Clr at hw
  unfold EvI at hs
  subst hm
  unfold Ev aDcT
  simp only [hs, Res.bind]
  rw [hw, dcL_go (by simp; omega) h1 h2 h3 h4 h5 h6]
  simp only
  rw [← hw, rest_wipe]
theorem key_s {a : Str} {ks : List Key} (h : keyL ds = some ks) : keyL (.str a :: ds) = some (.inr a :: ks) := by rw [keyL, h]; rfl
theorem key_i {s : Int} {ks : List Key} (h : keyL ds = some ks) : keyL (.int s :: ds) = some (.inl s :: ks) := by rw [keyL, h]; rfl
theorem key_0 : keyL [] = some [] := rfl
theorem key_t {ks : List Key} (h : keyL ds = some ks) : keyT (.tup ds) = some ks := h
theorem keyL_kD : ∀ k : List Key, keyL (k.map kD) = some k
  | [] => rfl
  | .inl s :: k => key_i (keyL_kD k)
  | .inr s :: k => key_s (keyL_kD k)
/-- a table: its entries under keys -/
def tab {α : Type} (kf : α → List Key) (vf : α → D) (xs : List α) : List (D × O) := xs.map fun x => (tD (kf x), .sh (vf x))
def tabD {α : Type} (kf : α → List Key) (vf : α → D) (xs : List α) : List (D × D) := xs.map fun x => (tD (kf x), vf x)
theorem fz_tab {α : Type} {kf : α → List Key} {vf : α → D} {xs : List α} : Fz (.dit (tab kf vf xs)) (.dit (tabD kf vf xs)) := by
  unfold Fz
  rw [fz, fzKV_map, tab, tabD, List.map_map]
  simp [Function.comp_def, fz]
theorem valT_tab {α : Type} {kf : α → List Key} {vf : α → D} {xs : List α} {k : List Key} : valT (tab kf vf xs) k = (xs.find? fun x => decide (kf x = k)).map fun x => .sh (vf x) := by
  unfold valT tab
  rw [List.find?_map, Option.map_map]
  simp only [Function.comp_def, keyEqT_tD]
theorem valT_tabD {α : Type} {kf : α → List Key} {vf : α → D} {xs : List α} {k : List Key} : valT (tabD kf vf xs) k = (xs.find? fun x => decide (kf x = k)).map vf := by
  unfold valT tabD
  rw [List.find?_map, Option.map_map]
  simp only [Function.comp_def, keyEqT_tD]
theorem putT_new {α : Type} {kf : α → List Key} {vf : α → D} {xs : List α} {a : α} (h : ∀ x ∈ xs, kf x ≠ kf a) : putT (tab kf vf xs) (kf a) (.sh (vf a)) = tab kf vf (xs ++ [a]) := by
  unfold putT
  rw [if_neg]
  · simp [tab]
  · simp only [tab, List.any_map, Function.comp_def, keyEqT_tD, List.any_eq_true, decide_eq_true_eq, not_exists, not_and]
    exact fun x hx => h x hx
theorem dcAll_app {α : Type} {kf : α → List Key} {vf : α → D} : ∀ {xs ys : List α}, (ys ++ xs).Pairwise (fun a b => kf a ≠ kf b) → dcAll kf vf xs (tab kf vf ys) = tab kf vf (ys ++ xs)
  | [], ys, _ => by rw [List.append_nil]; rfl
  | x :: xs, ys, h => by
    have h' : (ys ++ [x] ++ xs).Pairwise (fun a b => kf a ≠ kf b) := by rw [List.append_assoc]; exact h
    rw [dcAll, putT_new, dcAll_app h', List.append_assoc]
    · rfl
    · intro y hy
      exact (List.pairwise_append.mp h).2.2 y hy x (by simp)
theorem dcAll_new {α : Type} {kf : α → List Key} {vf : α → D} {xs : List α} (h : xs.Pairwise (fun a b => kf a ≠ kf b)) : dcAll kf vf xs [] = tab kf vf xs := dcAll_app (ys := []) h
theorem fz_dcAll {α : Type} {kf : α → List Key} {vf : α → D} {xs : List α} (h : Sz (xs.Pairwise (fun a b => kf a ≠ kf b))) : Fz (.dit (dcAll kf vf xs [])) (.dit (tabD kf vf xs)) := by
  rw [dcAll_new h.go]
  exact fz_tab
theorem putT_old {kvs : List (D × O)} {k : List Key} {o : O} (h : (kvs.any fun p => keyEqT p.1 k) = true) : (putT kvs k o).length = kvs.length := by
  unfold putT
  rw [if_pos h, List.length_map]
theorem putT_has {kvs : List (D × O)} {k k' : List Key} {o : O} (h : (kvs.any fun p => keyEqT p.1 k) = true) : ((putT kvs k' o).any fun p => keyEqT p.1 k) = true := by
  unfold putT
  obtain ⟨p, hp, e⟩ := List.any_eq_true.mp h
  split
  · rw [List.any_map, List.any_eq_true]
    refine ⟨p, hp, ?_⟩
    simp only [Function.comp_def]
    split <;> exact e
  · rw [List.any_append, h]
    rfl
theorem putT_self {kvs : List (D × O)} {k : List Key} {o : O} : ((putT kvs k o).any fun p => keyEqT p.1 k) = true := by
  unfold putT
  split
  · rename_i h
    obtain ⟨p, hp, e⟩ := List.any_eq_true.mp h
    rw [List.any_map, List.any_eq_true]
    refine ⟨p, hp, ?_⟩
    simp only [Function.comp_def]
    split <;> exact e
  · rw [List.any_append]
    simp [keyEqT_tD]
theorem dcAll_le {α : Type} {kf : α → List Key} {vf : α → D} : ∀ {xs : List α} {acc : List (D × O)}, (dcAll kf vf xs acc).length ≤ acc.length + xs.length
  | [], acc => Nat.le_refl _
  | x :: xs, acc => by
    rw [dcAll]
    have := dcAll_le (kf := kf) (vf := vf) (xs := xs) (acc := putT acc (kf x) (.sh (vf x)))
    have := putT_len acc (kf x) (.sh (vf x))
    rw [List.length_cons]
    omega
theorem dcAll_lt {α : Type} {kf : α → List Key} {vf : α → D} : ∀ {xs : List α} {acc : List (D × O)}, (¬ xs.Pairwise (fun a b => kf a ≠ kf b) ∨ ∃ x ∈ xs, (acc.any fun p => keyEqT p.1 (kf x)) = true) → (dcAll kf vf xs acc).length < acc.length + xs.length
  | [], acc, h => by
    rcases h with h | ⟨x, hx, _⟩
    · exact absurd .nil h
    · cases hx
  | a :: xs, acc, h => by
    rw [dcAll, List.length_cons]
    by_cases ha : (acc.any fun p => keyEqT p.1 (kf a)) = true
    · have e1 := putT_old (o := .sh (vf a)) ha
      have := dcAll_le (kf := kf) (vf := vf) (xs := xs) (acc := putT acc (kf a) (.sh (vf a)))
      omega
    · have e1 := putT_len acc (kf a) (.sh (vf a))
      have : (dcAll kf vf xs (putT acc (kf a) (.sh (vf a)))).length < (putT acc (kf a) (.sh (vf a))).length + xs.length := by
        apply dcAll_lt
        rcases h with h | ⟨x, hx, e⟩
        · rw [List.pairwise_cons] at h
          by_cases hp : xs.Pairwise (fun a b => kf a ≠ kf b)
          · right
            have : ¬ ∀ x ∈ xs, kf a ≠ kf x := fun z => h ⟨z, hp⟩
            obtain ⟨x, hx, e⟩ : ∃ x, ∃ _ : x ∈ xs, kf a = kf x := Classical.byContradiction fun n => this fun x hx e => n ⟨x, hx, e⟩
            exact ⟨x, hx, by rw [← e]; exact putT_self⟩
          · exact .inl hp
        · rcases List.mem_cons.mp hx with rfl | hx
          · exact (ha e).elim
          · exact .inr ⟨x, hx, putT_has e⟩
      omega
/-! d.get(k) -/
theorem ev_get1 (h1 : Ev g ρ o ρ1) (h2 : isDicO o = true) (h3 : Ev gk ρ1 x ρ2) (h4 : gGet1 o x = some w) : Ev (aGet1 g gk) ρ w ρ2 := by
  unfold Ev at *
  unfold aGet1
  simp only [h1, Res.bind, h2, if_true, h3, h4]
theorem isd_t {kvs : List (D × D)} : isDicO (.sh (.dit kvs)) = true := rfl
theorem isd_d {kvs : List (D × D)} : isDicO (.sh (.dic kvs)) = true := rfl
theorem get_t {kvs : List (D × D)} {ks : List Key} {u : Option D} (h1 : keyT d = some ks) (h2 : valT kvs ks = u) : gGet1 (.sh (.dit kvs)) (.sh d) = some (O.sh (u.getD .non)) := by
  show (match keyT d with
    | some k => match valT kvs k with
      | some d => some (O.sh d)
      | none => some (O.sh .non)
    | none => none) = _
  rw [h1]
  simp only [h2]
  cases u <;> rfl
theorem in_dit {kos : List (D × O)} {ks : List Key} (h1 : keyT d = some ks) : inG (.sh d) (O.dit kos) = some ((valT (fzKV kos) ks).isSome) := by
  have e : inG (O.sh d) (O.dit kos) = (match ditD (O.dit kos) with
    | some kvs => (keyT (fz (O.sh d))).map fun k => (valT kvs k).isSome
    | none => none) := by
    unfold inG
    cases d <;> rfl
  rw [e]
  simp only [ditD, fz, h1, Option.map_some]
theorem ix_dit {kos : List (D × O)} {ks : List Key} (h1 : keyT d = some ks) (h2 : valT kos ks = some (.sh e)) : gIx (.dit kos) (.sh d) = some (.sh e) := by
  show (match keyT d with
    | some k => match valT kos k with
      | some (.sh d) => some (O.sh d)
      | _ => none
    | none => none) = _
  rw [h1]
  simp only [h2]
theorem ix_ditS {kvs : List (D × D)} {ks : List Key} (h1 : keyT d = some ks) (h2 : valT kvs ks = some e) : gIx (.sh (.dit kvs)) (.sh d) = some (.sh e) := by
  show (match keyT d with
    | some k => (valT kvs k).map O.sh
    | none => none) = _
  rw [h1]
  simp only [h2, Option.map_some]
theorem set_dit {kos : List (D × O)} {ks : List Key} (h1 : keyT d = some ks) (h2 : Sz (kos.length < 16000000)) : setO (.dit kos) (.sh d) e = some (.dit (putT kos ks (.sh e))) := by
  show (match keyT d with
    | some k => if kos.length < 16000000 then some (O.dit (putT kos k (.sh e))) else none
    | none => none) = _
  rw [h1]
  simp only
  rw [if_pos h2.go]
/-! == and len by an own def -/
theorem eqI_o {fs gs : List (Str × D)} {o1 o2 : O} (h : den [.sh (.obj c fs), .sh (.obj c gs)] = .ret (.sh (.bl b)) [o1, o2]) : gEqI c den (.sh (.obj c fs)) (.sh (.obj c gs)) = some (.sh (.bl b)) := by
  show (if c = c ∧ c = c then eqI den _ _ else none) = _
  rw [if_pos ⟨rfl, rfl⟩, eqI, h]
theorem eqI_t {fs : List (Str × D)} {o1 o2 : O} (h : den [.sh (.obj c fs), .sh (.tup ds)] = .ret (.sh (.bl b)) [o1, o2]) : gEqI c den (.sh (.obj c fs)) (.sh (.tup ds)) = some (.sh (.bl b)) := by
  show (if c = c then eqI den _ _ else none) = _
  rw [if_pos rfl, eqI, h]
theorem lenI_o {fs : List (Str × D)} {s : Int} {o1 : O} (h : den [.sh (.obj c fs)] = .ret (.sh (.int s)) [o1]) (h2 : Sz (0 ≤ s ∧ s < 2 ^ 63)) : gLenI c den (.sh (.obj c fs)) = some (.sh (.int s)) := by
  show (if c = c then _ else _) = _
  rw [if_pos rfl, h]
  simp only
  rw [if_pos h2.go]
end
end Den
end
section
/-! Den, part BH: plain data: equality, sorting; rows of plans. -/
namespace Den
open PySem L2 PySem.W PyProof.Rows
/-! ### plain data, no truth values, at most n deep -/
def dok : Nat → D → Bool
  | _, .non => true
  | _, .int _ => true
  | _, .str z => PyData.strOk z
  | n + 1, .tup ds => ds.all (dok n)
  | n + 1, .lst ds => ds.all (dok n)
  | _, _ => false
theorem dok_mono : ∀ {n : Nat} {d : D}, dok n d = true → dok (n + 1) d = true
  | _, .non, _ => by simp [dok]
  | _, .int _, _ => by simp [dok]
  | n, .str z, h => by
    cases n <;> simpa [dok] using h
  | n + 1, .tup ds, h => by
    simp only [dok, List.all_eq_true] at h ⊢
    exact fun d hd => dok_mono (h d hd)
  | n + 1, .lst ds, h => by
    simp only [dok, List.all_eq_true] at h ⊢
    exact fun d hd => dok_mono (h d hd)
  | 0, .tup _, h => by simp [dok] at h
  | 0, .lst _, h => by simp [dok] at h
  | n, .bl _, h => by cases n <;> simp [dok] at h
  | n, .wls _, h => by cases n <;> simp [dok] at h
  | n, .ktp _, h => by cases n <;> simp [dok] at h
  | n, .dic _, h => by cases n <;> simp [dok] at h
  | n, .dit _, h => by cases n <;> simp [dok] at h
  | n, .obj _ _, h => by cases n <;> simp [dok] at h
  | n, .xd _, h => by cases n <;> simp [dok] at h
/-- how it stands as data -/
structure Py (n : Nat) (d : D) (p : PyData) : Prop where
  eq : toPy d = some p
  lay : PyData.canLay0 p = true
  dep : p.depth ≤ n
theorem pyL {n : Nat} : ∀ {ds : List D}, (∀ d ∈ ds, ∃ p, Py n d p) → ∃ ps, toPyL ds = some ps ∧ PyData.canLayAll0 ps = true ∧ PyData.depthAll ps ≤ n
  | [], _ => ⟨[], by simp [toPyL], by simp [PyData.canLayAll0], by simp [PyData.depthAll]⟩
  | d :: ds, h => by
    obtain ⟨p, e, l, dp⟩ := h d (by simp)
    obtain ⟨ps, e2, l2, dp2⟩ := pyL (ds := ds) fun x m => h x (by simp [m])
    refine ⟨p :: ps, by simp [toPyL, e, e2], by simp [PyData.canLayAll0, l, l2], ?_⟩
    simp only [PyData.depthAll]
    omega
theorem py_of : ∀ {n : Nat} {d : D}, dok n d = true → ∃ p, Py n d p
  | n, .non, _ => ⟨.none, by simp [toPy], by simp [PyData.canLay0], by simp [PyData.depth]⟩
  | n, .int i, _ => ⟨.int i, by simp [toPy], by simp [PyData.canLay0], by simp [PyData.depth]⟩
  | n, .str z, h => by
    have h : PyData.strOk z = true := by cases n <;> simpa [dok] using h
    exact ⟨.str z, by simp [toPy], by simpa [PyData.canLay0] using h, by simp [PyData.depth]⟩
  | n + 1, .tup ds, h => by
    simp only [dok, List.all_eq_true] at h
    obtain ⟨ps, e, l, dp⟩ := pyL fun d hd => py_of (h d hd)
    refine ⟨.tuple ps, by simp [toPy, e], by simpa [PyData.canLay0] using l, ?_⟩
    simp only [PyData.depth]
    omega
  | n + 1, .lst ds, h => by
    simp only [dok, List.all_eq_true] at h
    obtain ⟨ps, e, l, dp⟩ := pyL fun d hd => py_of (h d hd)
    refine ⟨.list ps, by simp [toPy, e], by simpa [PyData.canLay0] using l, ?_⟩
    simp only [PyData.depth]
    omega
  | 0, .tup _, h => by simp [dok] at h
  | 0, .lst _, h => by simp [dok] at h
  | n, .bl _, h => by cases n <;> simp [dok] at h
  | n, .wls _, h => by cases n <;> simp [dok] at h
  | n, .ktp _, h => by cases n <;> simp [dok] at h
  | n, .dic _, h => by cases n <;> simp [dok] at h
  | n, .dit _, h => by cases n <;> simp [dok] at h
  | n, .obj _ _, h => by cases n <;> simp [dok] at h
  | n, .xd _, h => by cases n <;> simp [dok] at h
theorem eqvL {n : Nat} (ih : ∀ {a b : D} {p q : PyData}, dok n a = true → dok n b = true → toPy a = some p → toPy b = some q → (PyData.eqv p q = true ↔ a = b)) :
    ∀ {as bs : List D} {ps qs : List PyData}, (∀ d ∈ as, dok n d = true) → (∀ d ∈ bs, dok n d = true) → toPyL as = some ps → toPyL bs = some qs → (PyData.eqvAll ps qs = true ↔ as = bs)
  | [], [], ps, qs, _, _, e1, e2 => by
    simp only [toPyL, Option.some.injEq] at e1 e2
    subst e1 e2
    simp [PyData.eqvAll]
  | a :: as, [], ps, qs, _, _, e1, e2 => by
    simp only [toPyL, Option.bind_eq_some_iff, Option.map_eq_some_iff, Option.some.injEq] at e1 e2
    obtain ⟨p, _, ps', _, rfl⟩ := e1
    subst e2
    simp [PyData.eqvAll]
  | [], b :: bs, ps, qs, _, _, e1, e2 => by
    simp only [toPyL, Option.bind_eq_some_iff, Option.map_eq_some_iff, Option.some.injEq] at e1 e2
    obtain ⟨p, _, ps', _, rfl⟩ := e2
    subst e1
    simp [PyData.eqvAll]
  | a :: as, b :: bs, ps, qs, h1, h2, e1, e2 => by
    simp only [toPyL, Option.bind_eq_some_iff, Option.map_eq_some_iff] at e1 e2
    obtain ⟨p, ep, ps', eps, rfl⟩ := e1
    obtain ⟨q, eq, qs', eqs, rfl⟩ := e2
    have i1 := ih (h1 a (by simp)) (h2 b (by simp)) ep eq
    have i2 := eqvL ih (fun d m => h1 d (by simp [m])) (fun d m => h2 d (by simp [m])) eps eqs
    simp only [PyData.eqvAll, Bool.and_eq_true, i1, i2, List.cons.injEq]
theorem eqv_iff : ∀ {n : Nat} {a b : D} {p q : PyData}, dok n a = true → dok n b = true → toPy a = some p → toPy b = some q → (PyData.eqv p q = true ↔ a = b) := by
  intro n
  induction n with
  | zero =>
    intro a b p q h1 h2 e1 e2
    cases a <;> first | (simp [dok] at h1; done) | skip
    all_goals
      cases b <;> first | (simp [dok] at h2; done) | skip
    all_goals
      simp only [toPy, Option.some.injEq] at e1 e2
      subst e1 e2
      simp [PyData.eqv]
  | succ n ih =>
    intro a b p q h1 h2 e1 e2
    cases a <;> first | (simp [dok] at h1; done) | skip
    all_goals
      cases b <;> first | (simp [dok] at h2; done) | skip
    all_goals
      first
      | (simp only [toPy, Option.some.injEq] at e1 e2
         subst e1 e2
         simp [PyData.eqv]; done)
      | (simp only [toPy, Option.some.injEq, Option.map_eq_some_iff] at e1 e2
         first
         | (obtain ⟨ps, eps, rfl⟩ := e1
            obtain ⟨qs, eqs, rfl⟩ := e2
            simp only [dok, List.all_eq_true] at h1 h2
            simp [PyData.eqv, eqvL ih h1 h2 eps eqs]; done)
         | (obtain ⟨ps, eps, rfl⟩ := e1
            subst e2
            simp [PyData.eqv]; done)
         | (obtain ⟨ps, eps, rfl⟩ := e2
            subst e1
            simp [PyData.eqv]; done)
         | (obtain ⟨ps, eps, rfl⟩ := e1
            obtain ⟨qs, eqs, rfl⟩ := e2
            simp [PyData.eqv]; done))
theorem shaped_py {n : Nat} {d : D} {p : PyData} (h : Py n d p) (hn : n ≤ 64) : SeqAt.shaped p = true := by
  unfold SeqAt.shaped
  rw [h.lay, decide_eq_true (Nat.le_trans h.dep hn)]
  rfl
open Classical in
theorem eq_dok {n : Nat} {a b : D} (h1 : dok n a = true) (h2 : dok n b = true) (hn : n ≤ 64) : gEqD a b = some (decide (a = b)) := by
  obtain ⟨p, hp⟩ := py_of h1
  obtain ⟨q, hq⟩ := py_of h2
  have e := eqv_iff h1 h2 hp.eq hq.eq
  unfold gEqD
  cases hs : scalD a b with
  | none =>
    simp only [hp.eq, hq.eq]
    rw [if_pos ⟨shaped_py hp hn, shaped_py hq hn⟩]
    congr 1
    rw [Bool.eq_iff_iff, e, decide_eq_true_eq]
  | some t =>
    simp only
    congr 1
    cases a <;> cases b <;> simp only [scalD, Option.some.injEq, reduceCtorEq] at hs <;> subst hs <;> simp
/-- .. as a test of what tells them -/
theorem eq_em {α : Type} [DecidableEq α] {n : Nat} {em : α → D} {x y : α} (h1 : dok n (em x) = true) (h2 : dok n (em y) = true) (inj : em x = em y → x = y) (hn : n ≤ 64) : gEqD (em x) (em y) = some (decide (x = y)) := by
  rw [eq_dok h1 h2 hn]
  congr 1
  rw [decide_eq_decide]
  exact ⟨inj, fun e => by rw [e]⟩
open Classical in
theorem any_eqv {n : Nat} {a : D} {p : PyData} (h1 : dok n a = true) (hp : toPy a = some p) : ∀ {es : List D} {qs : List PyData}, (∀ e ∈ es, dok n e = true) → toPyL es = some qs → (qs.any fun z => PyData.eqv z p) = decide (a ∈ es)
  | [], qs, _, e => by
    simp only [toPyL, Option.some.injEq] at e
    subst e
    simp
  | b :: es, qs, h, e => by
    simp only [toPyL, Option.bind_eq_some_iff, Option.map_eq_some_iff] at e
    obtain ⟨q, eq, qs', eqs, rfl⟩ := e
    rw [List.any_cons, any_eqv h1 hp (fun e m => h e (by simp [m])) eqs, Bool.eq_iff_iff]
    simp only [Bool.or_eq_true, decide_eq_true_eq, List.mem_cons, eqv_iff (h b (by simp)) h1 eq hp]
    exact or_congr ⟨Eq.symm, Eq.symm⟩ Iff.rfl
open Classical in
/-- a tuple in a list -/
theorem in_tupL {n : Nat} {as es : List D} (h1 : dok n (.tup as) = true) (h2 : ∀ e ∈ es, dok n e = true) (hn : n ≤ 60) : inG (.sh (.tup as)) (oL es) = some (decide (.tup as ∈ es)) := by
  obtain ⟨p, hp⟩ := py_of h1
  obtain ⟨qs, eq, lq, dq⟩ := pyL fun e m => py_of (h2 e m)
  have e : inG (.sh (.tup as)) (oL es) = (match ditD (oL es) with
    | some kvs => (keyT (fz (.sh (.tup as)))).map fun k => (valT kvs k).isSome
    | none => match dicD (oL es) with
    | some kvs => (keyD (fz (.sh (.tup as)))).map fun k => (valD kvs k).isSome
    | none => match seqD (oL es) with
      | some ds => if flatD (fz (.sh (.tup as))) = true ∧ ds.all flatD = true then some (inF (fz (.sh (.tup as))) ds) else
        match fz (oL es), toPy (fz (.sh (.tup as))), toPyL ds with
        | .lst _, some p, some qs => if SeqAt.shaped p = true ∧ SeqAt.shaped (.list qs) = true then some (qs.any fun z => PyData.eqv z p) else none
        | _, _, _ => none
      | none => none) := by
    unfold inG
    rfl
  rw [e]
  simp only [ditD, dicD, seqD, fz_oL, fz, flatD, Bool.false_eq_true, false_and, if_false, hp.eq, eq]
  rw [if_pos, any_eqv h1 hp.eq h2 eq]
  refine ⟨shaped_py hp (by omega), ?_⟩
  unfold SeqAt.shaped
  simp only [PyData.canLay0, lq, PyData.depth, Bool.true_and]
  exact decide_eq_true (by omega)
/-! ### sorting -/
def srtBy {α : Type} (em : α → D) (xs : List α) : List α := xs.mergeSort fun a b => dataLe false pyT (em a) (em b)
theorem srt_map {α : Type} (em : α → D) (xs : List α) : sortD (xs.map em) = (srtBy em xs).map em := by
  unfold sortD srtBy
  exact (List.map_mergeSort (r := fun a b => dataLe false pyT (em a) (em b)) (s := dataLe false pyT) (f := em) fun a _ b _ => rfl).symm
theorem srt_perm {α : Type} (em : α → D) (xs : List α) : (srtBy em xs).Perm xs := List.mergeSort_perm _ _
theorem srt_uniq {α : Type} {em : α → D} {xs ys : List α} (h : xs.Perm ys) (inj : ∀ a ∈ xs, ∀ b ∈ xs, keyToks (pyT (em a)) = keyToks (pyT (em b)) → a = b) : srtBy em xs = srtBy em ys := by
  have T := sortLe_total (listOrd itemOrd) false fun b : α => keyToks (pyT (em b))
  have pw : ∀ zs : List α, (srtBy em zs).Pairwise fun a b => dataLe false pyT (em a) (em b) = true := fun zs => List.pairwise_mergeSort (fun a b c h1 h2 => T.trans a b c h1 h2) (fun a b => by
    rcases T.total a b with h | h
    · rw [Bool.or_eq_true]; exact .inl h
    · rw [Bool.or_eq_true]; exact .inr h) zs
  refine List.Perm.eq_of_pairwise (le := fun a b => dataLe false pyT (em a) (em b) = true) (fun a b ha hb h1 h2 => ?_) (pw xs) (pw ys) ((srt_perm em xs).trans (h.trans (srt_perm em ys).symm))
  have ha' := (srt_perm em xs).mem_iff.mp ha
  have hb' := h.mem_iff.mpr ((srt_perm em ys).mem_iff.mp hb)
  refine inj a ha' b hb' ?_
  have k1 : (!(lexLt itemOrd (keyToks (pyT (em b))) (keyToks (pyT (em a))))) = true := h1
  have k2 : (!(lexLt itemOrd (keyToks (pyT (em a))) (keyToks (pyT (em b))))) = true := h2
  rw [Bool.not_eq_true'] at k1 k2
  exact (listOrd itemOrd).total _ _ k2 k1
/-- what can be sorted -/
theorem sort_ok {α : Type} {em : α → D} {xs : List α} (hl : xs.length ≤ 1000) (h : ∀ x ∈ xs, ∃ p ps, toPy (em x) = some (.tuple (p :: ps)) ∧ (PyData.tuple (p :: ps)).depth ≤ 3) (ha : ∀ x ∈ xs, ∀ y ∈ xs, alike (pyT (em x)) (pyT (em y)) = true) : gSortD (oL (xs.map em)) = some (oL ((srtBy em xs).map em)) := by
  unfold gSortD
  rw [lstD_oL]
  simp only [List.length_map]
  rw [if_pos, srt_map]
  · rfl
  · refine ⟨hl, ?_⟩
    simp only [List.all_map, List.all_eq_true, Function.comp_def]
    intro x hx
    obtain ⟨p, ps, e, dp⟩ := h x hx
    have ep : pyT (em x) = .tuple (p :: ps) := by unfold pyT; rw [e]; rfl
    simp only [e, Option.isSome_some, Bool.true_and, Bool.and_eq_true, decide_eq_true_eq]
    refine ⟨by rw [ep]; rfl, by rw [ep]; exact dp, ?_⟩
    rw [List.all_eq_true]
    intro y hy
    exact ha x hx y hy
/-! ### rows of plans -/
structure R4 where
  p : Str
  n : Int
  c : Str
  l : Int
  deriving DecidableEq, Inhabited
def R4.d (r : R4) : D := .tup [.str r.p, .int r.n, .str r.c, .int r.l]
def R4.k (r : R4) : List Key := [.inr r.p, .inl r.n]
def R4.v (r : R4) : D := .tup [.str r.c, .int r.l]
def R4.ok (r : R4) : Prop := nmB r.p = true ∧ nmB r.c = true ∧ (0 ≤ r.n ∧ r.n ≤ 9999999999999999999999999999999999999999) ∧ 0 ≤ r.l ∧ r.l ≤ 9999999999999999999999999999999999999999
theorem R4.inj {r s : R4} (h : r.d = s.d) : r = s := by
  cases r
  cases s
  simpa [R4.d] using h
theorem R4.toks {r s : R4} (h : keyToks (pyT r.d) = keyToks (pyT s.d)) : r = s := by
  have e : ∀ r : R4, keyToks (pyT r.d) = [.inl 1, .inr r.p.cps.toList, .inl 1, .inl r.n, .inl 1, .inr r.c.cps.toList, .inl 1, .inl r.l, .inl 0] := fun r => by simp [pyT, R4.d, toPy, toPyL, keyToks, keyToksAll]
  rw [e, e] at h
  simp only [List.cons.injEq, Sum.inr.injEq, Sum.inl.injEq, and_true, true_and] at h
  cases r
  cases s
  simp only [R4.mk.injEq]
  exact ⟨str_of_cps h.1, h.2.1, str_of_cps h.2.2.1, h.2.2.2⟩
theorem R4.dok {r : R4} (h : r.ok) : dok 1 r.d = true := by
  have h1 := (name_ok h.1).1
  have h2 := (name_ok h.2.1).1
  simp only [R4.d, Den.dok, List.all_cons, List.all_nil, Bool.and_true, Bool.true_and, Bool.and_eq_true]
  exact ⟨h1, h2⟩
theorem R4.sort {rs : List R4} (hl : rs.length ≤ 1000) : gSortD (oL (rs.map R4.d)) = some (oL ((srtBy R4.d rs).map R4.d)) :=
  sort_ok hl (fun r _ => ⟨_, _, by simp only [R4.d, toPy, toPyL, Option.bind_some, Option.map_some]; rfl, by simp [PyData.depth, PyData.depthAll]⟩) (fun x _ y _ => by simp [pyT, R4.d, toPy, toPyL, alike, alikeAll])
theorem R4.uniq {xs ys : List R4} (h : xs.Perm ys) : srtBy R4.d xs = srtBy R4.d ys := srt_uniq h fun _ _ _ _ e => R4.toks e
theorem R4.sl2 {r : R4} : gSl (.sh r.d) none (some 2) = some (.sh (.tup [.str r.p, .int r.n])) := by
  unfold R4.d; exact sl_T cut_to2
theorem R4.sl2f {r : R4} : gSl (.sh r.d) (some 2) none = some (.sh r.v) := by
  unfold R4.d R4.v; exact sl_T cut_fr2
theorem R4.sl3 {r : R4} : gSl (.sh r.d) none (some 3) = some (.sh (.tup [.str r.p, .int r.n, .str r.c])) := by
  unfold R4.d; exact sl_T cut_to3
theorem R4.ix0 {r : R4} : gIx (.sh r.d) (.sh (.int 0)) = some (.sh (.str r.p)) := by unfold R4.d; exact op_ixT ix_lit0
theorem R4.ix1 {r : R4} : gIx (.sh r.d) (.sh (.int 1)) = some (.sh (.int r.n)) := by unfold R4.d; exact op_ixT ix_lit1
theorem R4.ix2 {r : R4} : gIx (.sh r.d) (.sh (.int 2)) = some (.sh (.str r.c)) := by unfold R4.d; exact op_ixT ix_lit2
theorem R4.ix3 {r : R4} : gIx (.sh r.d) (.sh (.int 3)) = some (.sh (.int r.l)) := by unfold R4.d; exact op_ixT ix_lit3
theorem kd_dok {r : R4} (h : r.ok) : dok 1 (.tup [.str r.p, .int r.n]) = true := by
  simp only [Den.dok, List.all_cons, List.all_nil, Bool.and_true, Bool.true_and]
  exact (name_ok h.1).1
/-- no place and note twice -/
def Ap4 (rs : List R4) : Prop := rs.Pairwise fun a b => a.k ≠ b.k
instance (rs : List R4) : Decidable (Ap4 rs) := inferInstanceAs (Decidable (List.Pairwise _ rs))
open Classical in
theorem R4.inKeys {r : R4} {l : List R4} {k : Nat} (h : Sz (r.ok ∧ ∀ x ∈ l, x.ok)) : inG (.sh (.tup [.str r.p, .int r.n])) (oL (List.take k (l.map fun r => .tup [.str r.p, .int r.n]))) = some ((l.take k).any fun x => decide (x.k = r.k)) := by
  rw [← List.map_take, in_tupL (n := 1) (kd_dok h.go.1) (fun e he => by
    obtain ⟨x, hx, rfl⟩ := List.mem_map.mp he
    exact kd_dok (h.go.2 x (List.mem_of_mem_take hx))) (by omega)]
  refine congrArg some ?_
  rw [Bool.eq_iff_iff, decide_eq_true_eq, List.mem_map, List.any_eq_true]
  have : ∀ x : R4, D.tup [D.str x.p, D.int x.n] = D.tup [D.str r.p, D.int r.n] ↔ x.k = r.k := fun x => by simp [R4.k]
  simp only [this, decide_eq_true_eq]
theorem ix_getD {α : Type} [Inhabited α] {l : List α} {k : Nat} (h : Sz (k < l.length)) : l[k]? = some (l.getD k default) := by
  rw [List.getD_eq_getElem?_getD, List.getElem?_eq_getElem h.go]
  rfl
theorem apart_at {rs : List R4} : ((List.range rs.length).filter fun k => (rs.take k).any fun x => decide (x.k = (rs.getD k default).k)).isEmpty = decide (Ap4 rs) := by
  rw [Bool.eq_iff_iff, List.isEmpty_iff, decide_eq_true_eq, List.filter_eq_nil_iff]
  unfold Ap4
  rw [List.pairwise_iff_getElem]
  constructor
  · intro h i j hi hj hij e
    refine h j (List.mem_range.mpr hj) ?_
    rw [List.any_eq_true]
    refine ⟨rs[i], ?_, ?_⟩
    · rw [List.mem_take_iff_getElem]
      exact ⟨i, by omega, rfl⟩
    · rw [decide_eq_true_eq, List.getD_eq_getElem?_getD, List.getElem?_eq_getElem hj]
      exact e
  · intro h j hj
    have hj := List.mem_range.mp hj
    rw [List.any_eq_true]
    rintro ⟨x, hx, e⟩
    rw [List.mem_take_iff_getElem] at hx
    obtain ⟨i, hi, rfl⟩ := hx
    rw [decide_eq_true_eq, List.getD_eq_getElem?_getD, List.getElem?_eq_getElem hj] at e
    exact h i j (by omega) hj (by omega) e
theorem R4.mapInj : ∀ {xs ys : List R4}, xs.map R4.d = ys.map R4.d → xs = ys
  | [], [], _ => rfl
  | [], _ :: _, h => by cases h
  | _ :: _, [], h => by cases h
  | x :: xs, y :: ys, h => by
    simp only [List.map_cons, List.cons.injEq] at h
    rw [R4.inj h.1, R4.mapInj h.2]
theorem R4.dokRows {xs : List R4} (h : ∀ x ∈ xs, x.ok) : Den.dok 2 (.tup (xs.map R4.d)) = true := by
  simp only [Den.dok, List.all_map, List.all_eq_true, Function.comp_def]
  exact fun x m => R4.dok (h x m)
theorem R4.eqRows {xs ys : List R4} (h : Sz ((∀ x ∈ xs, x.ok) ∧ ∀ y ∈ ys, y.ok)) : gEqD (.tup (xs.map R4.d)) (.tup (ys.map R4.d)) = some (decide (xs = ys)) :=
  eq_em (em := fun xs : List R4 => .tup (xs.map R4.d)) (R4.dokRows h.go.1) (R4.dokRows h.go.2) (fun e => R4.mapInj (by simpa using e)) (by omega : 2 ≤ 64)
/-- what a plan tells at a place, with a note -/
def R4.at_ (rs : List R4) (p : Str) (n : Int) : Option R4 := rs.find? fun r => decide (r.k = [.inr p, .inl n])
theorem R4.tabIn {rs : List R4} {p : Str} {n : Int} : inG (.sh (.tup [.str p, .int n])) (.dit (tab R4.k R4.v rs)) = some (R4.at_ rs p n).isSome := by
  rw [in_dit (key_t (key_s (key_i key_0)))]
  have : fzKV (tab R4.k R4.v rs) = tabD R4.k R4.v rs := by
    have := fz_tab (kf := R4.k) (vf := R4.v) (xs := rs)
    unfold Fz at this
    rw [fz] at this
    injection this
  rw [this, valT_tabD]
  unfold R4.at_
  simp
theorem R4.tabIx {rs : List R4} {p : Str} {n : Int} {r : R4} (h : R4.at_ rs p n = some r) : gIx (.dit (tab R4.k R4.v rs)) (.sh (.tup [.str p, .int n])) = some (.sh r.v) := by
  refine ix_dit (key_t (key_s (key_i key_0))) ?_
  rw [valT_tab]
  unfold R4.at_ at h
  rw [h]
  rfl
theorem R4.tabGet {rs : List R4} {p : Str} {n : Int} : gGet1 (.sh (.dit (tabD R4.k R4.v rs))) (.sh (.tup [.str p, .int n])) = some (.sh (((R4.at_ rs p n).map R4.v).getD .non)) := get_t (key_t (key_s (key_i key_0))) valT_tabD
theorem R4.at_self {rs : List R4} {r : R4} (ha : Ap4 rs) (h : r ∈ rs) : R4.at_ rs r.p r.n = some r := by
  unfold R4.at_
  induction rs with
  | nil => cases h
  | cons x rs ih =>
    rw [Ap4, List.pairwise_cons] at ha
    rcases List.mem_cons.mp h with rfl | h
    · rw [List.find?_cons_of_pos]
      simp [R4.k]
    · rw [List.find?_cons_of_neg]
      · exact ih ha.2 h
      · have := ha.1 r h
        simpa [R4.k] using this
theorem R4.at_key {rs : List R4} {p : Str} {n : Int} {r : R4} (h : R4.at_ rs p n = some r) : r ∈ rs ∧ r.p = p ∧ r.n = n := by
  unfold R4.at_ at h
  refine ⟨List.mem_of_find?_eq_some h, ?_⟩
  have := List.find?_some h
  simpa [R4.k] using this
theorem R4.at_perm {xs ys : List R4} (h : xs.Perm ys) (ha : Ap4 xs) (hb : Ap4 ys) {p : Str} {n : Int} : R4.at_ xs p n = R4.at_ ys p n := by
  cases e : R4.at_ xs p n with
  | some r =>
    obtain ⟨m, rfl, rfl⟩ := R4.at_key e
    exact (R4.at_self hb (h.mem_iff.mp m)).symm
  | none =>
    cases e2 : R4.at_ ys p n with
    | none => rfl
    | some r =>
      obtain ⟨m, rfl, rfl⟩ := R4.at_key e2
      rw [R4.at_self ha (h.mem_iff.mpr m)] at e
      cases e
theorem R4.tabSelf {rs : List R4} {r : R4} (h : Sz (Ap4 rs ∧ r ∈ rs)) : gIx (.dit (tab R4.k R4.v rs)) (.sh (.tup [.str r.p, .int r.n])) = some (.sh (.tup [.str r.c, .int r.l])) := R4.tabIx (R4.at_self h.go.1 h.go.2)
/-- keys sorted -/
def R4.kd (r : R4) : D := .tup [.str r.p, .int r.n]
theorem R4.sortK {rs : List R4} (hl : rs.length ≤ 1000) : gSortD (oL (rs.map R4.kd)) = some (oL ((srtBy R4.kd rs).map R4.kd)) :=
  sort_ok hl (fun r _ => ⟨_, _, by simp only [R4.kd, toPy, toPyL, Option.bind_some, Option.map_some]; rfl, by simp [PyData.depth, PyData.depthAll]⟩) (fun x _ y _ => by simp [pyT, R4.kd, toPy, toPyL, alike, alikeAll])
theorem tab_fst {rs : List R4} : (tab R4.k R4.v rs).map Prod.fst = rs.map R4.kd := by
  unfold tab
  rw [List.map_map]
  rfl
theorem list_tab {rs : List R4} : gList (.dit (tab R4.k R4.v rs)) = some (oL (rs.map R4.kd)) := by
  have e : gList (.dit (tab R4.k R4.v rs)) = (match ditD (.dit (tab R4.k R4.v rs)) with
    | some kvs => some (.lst ((kvs.map Prod.fst).map O.sh))
    | none => none) := by
    unfold gList
    simp only [tupD, lstD, dicD, fz]
    first | done | rfl
  have e2 : ditD (.dit (tab R4.k R4.v rs)) = some (tabD R4.k R4.v rs) := by
    have := fz_tab (kf := R4.k) (vf := R4.v) (xs := rs)
    unfold Fz at this
    unfold ditD
    rw [this]
  rw [e, e2]
  simp only [tabD, List.map_map, oL]
  rfl
/-- a row put into a plan -/
def R4.put (rs : List R4) (r : R4) : List R4 := if rs.any (fun x => decide (x.k = r.k)) = true then rs.map (fun x => if x.k = r.k then r else x) else rs ++ [r]
theorem R4.tabSet {rs : List R4} {r : R4} (h : Sz (rs.length ≤ 1000)) : setO (.dit (tab R4.k R4.v rs)) (.sh (.tup [.str r.p, .int r.n])) (.tup [.str r.c, .int r.l]) = some (.dit (tab R4.k R4.v (R4.put rs r))) := by
  have hz := h.go
  rw [set_dit (key_t (key_s (key_i key_0))) (by show _ < _; unfold tab; rw [List.length_map]; omega)]
  congr 2
  have ea : ((tab R4.k R4.v rs).any fun p => keyEqT p.1 r.k) = rs.any fun x => decide (x.k = r.k) := by
    unfold tab
    rw [List.any_map]
    congr 1
    funext x
    exact keyEqT_tD _ _
  show putT (tab R4.k R4.v rs) r.k (.sh r.v) = _
  unfold putT R4.put
  rw [ea]
  split
  · unfold tab
    rw [List.map_map, List.map_map]
    apply List.map_congr_left
    intro x _
    simp only [Function.comp_def, keyEqT_tD, decide_eq_true_eq]
    by_cases e : x.k = r.k
    · rw [if_pos e, if_pos e]
      show (tD x.k, _) = (tD r.k, _)
      rw [e]
    · rw [if_neg e, if_neg e]
  · unfold tab
    rw [List.map_append]
    rfl
theorem R4.tabSet2 {rs : List R4} {p c : Str} {n l : Int} (h : Sz (rs.length ≤ 1000)) : setO (.dit (tab R4.k R4.v rs)) (.sh (.tup [.str p, .int n])) (.tup [.str c, .int l]) = some (.dit (tab R4.k R4.v (R4.put rs ⟨p, n, c, l⟩))) := R4.tabSet (r := ⟨p, n, c, l⟩) h
theorem R4.put_all {P : R4 → Prop} {rs : List R4} {r : R4} (h : ∀ x ∈ rs, P x) (hr : P r) : ∀ x ∈ R4.put rs r, P x := by
  unfold R4.put
  split
  · intro x hx
    obtain ⟨y, hy, rfl⟩ := List.mem_map.mp hx
    split
    · exact hr
    · exact h y hy
  · intro x hx
    rcases List.mem_append.mp hx with hx | hx
    · exact h x hx
    · rw [List.mem_singleton.mp hx]; exact hr
theorem R4.put_ok {rs : List R4} {r : R4} (h : ∀ x ∈ rs, x.ok) (hr : r.ok) : ∀ x ∈ R4.put rs r, x.ok := by
  unfold R4.put
  split
  · intro x hx
    obtain ⟨y, hy, rfl⟩ := List.mem_map.mp hx
    split
    · exact hr
    · exact h y hy
  · intro x hx
    rcases List.mem_append.mp hx with hx | hx
    · exact h x hx
    · rw [List.mem_singleton.mp hx]; exact hr
theorem R4.put_len (rs : List R4) (r : R4) : (R4.put rs r).length ≤ rs.length + 1 := by
  unfold R4.put
  split <;> simp
theorem R4.put_ap {rs : List R4} {r : R4} (h : Ap4 rs) : Ap4 (R4.put rs r) := by
  unfold R4.put
  split
  · unfold Ap4
    rw [List.pairwise_map]
    refine List.Pairwise.imp (R := fun a b : R4 => a.k ≠ b.k) (fun {a b} e => ?_) h
    by_cases h1 : a.k = r.k
    · by_cases h2 : b.k = r.k
      · exact (e (h1.trans h2.symm)).elim
      · rw [if_pos h1, if_neg h2]; exact fun z => h2 z.symm
    · by_cases h2 : b.k = r.k
      · rw [if_neg h1, if_pos h2]; exact h1
      · rw [if_neg h1, if_neg h2]; exact e
  · rename_i hn
    unfold Ap4
    rw [List.pairwise_append]
    refine ⟨h, by simp, fun a ha b hb => ?_⟩
    rw [List.mem_singleton.mp hb]
    intro e
    exact hn (List.any_eq_true.mpr ⟨a, ha, by simpa using e⟩)
/-- the greatest of some and 0, in whatever order -/
theorem foldl_max_perm {xs ys : List Int} (h : xs.Perm ys) : ∀ s : Int, xs.foldl max s = ys.foldl max s := by
  induction h with
  | nil => intro s; rfl
  | cons x _ ih => intro s; simp only [List.foldl_cons, ih]
  | swap x y l =>
    intro s
    simp only [List.foldl_cons]
    congr 1
    omega
  | trans _ _ i1 i2 => intro s; rw [i1, i2]
end Den
end
section
open PySem L2 PySem.Spec PyProof.Rows Den
namespace Lw
def top (i : Nat) : Stmt := PySem.Challenge.pw_keepersnotes_k29_plans_made_with_notes.main.body.getD i (.Pass ⟨0, 0, 0, 0⟩)
def clsB : Stmt → List Stmt
  | .ClassDef (body := b) .. => b
  | _ => []
def mtop (i j : Nat) : Stmt := (clsB (top i)).getD j (.Pass ⟨0, 0, 0, 0⟩)
theorem room65 {k : Nat} {A : Around} (r : Room k A) : A.units + 65 < cLine := by have := r.un; omega
theorem b_any : bootBuiltins "any" = some (.builtin "any") := by decide +kernel
theorem b_all : bootBuiltins "all" = some (.builtin "all") := by decide +kernel
theorem b_sorted : bootBuiltins "sorted" = some (.builtin "sorted") := by decide +kernel
theorem b_sum : bootBuiltins "sum" = some (.builtin "sum") := by decide +kernel
theorem b_min : bootBuiltins "min" = some (.builtin "min") := by decide +kernel
theorem b_max : bootBuiltins "max" = some (.builtin "max") := by decide +kernel
theorem b_isinstance : bootBuiltins "isinstance" = some (.builtin "isinstance") := by decide +kernel
def c_MOST_NUMBER : D := .int 9999999999999999999999999999999999999999
noncomputable def d_is_name : aF := aDef [true] 1
    (sSeq (sIf (aOr (aNot (aB (aOp [.pl 0] (l1 (gIsi "str"))))) (aOr (aNot (aB (aChain gLe gLe (aC (.int 1)) (aOp [.pl 0] (l1 gLen)) (aC (.int 12))))) (aNot (aB (aOp [.pl 0] (l1 (gStT Txt.isascii))))))) (sRet (aC (.bl false))) sNext)
    (sRet (aAndV (aB (aOp [.pl 0] (l1 (gStT Txt.isalnum)))) (aAndV (aB (aOp [.pl 0] (l1 (gStT Txt.islower)))) (aOp [.ex (aOp [.pl 0, .ex (aC (.int 0))] (l2 gIx))] (l1 (gStT Txt.isalpha)))))))
noncomputable def d_is_whole : aF := aDef [true, true, true] 3
    (sSeq (sIf (aOr (aNot (aB (aOp [.pl 0] (l1 (gIsi "int"))))) (aOr (aB (aOp [.pl 0] (l1 (gIsi "bool")))) (aB (aOp [.pl 0, .pl 1] (l2 gLt))))) (sRet (aC (.bl false))) sNext)
    (sRet (aOrV (aB (aOp [.pl 2] (l1 gIsN))) (aOp [.pl 0, .pl 2] (l2 gLe)))))
noncomputable def d_is_listed : aF := aDef [true] 1
    (sRet (aOp [.pl 0] (l1 (gIsi2 "tuple" "list"))))
noncomputable def d_is_plan_row : aF := aDef [true] 1
    (sSeq (sIf (aOr (aNot (aB (aOp [.pl 0] (l1 (gIsi "tuple"))))) (aOr (aB (aOp [.ex (aOp [.pl 0] (l1 gLen)), .ex (aC (.int 4))] (l2 gNe))) (aOr (aNot (aB (aCall 1 [.ex (aOp [.pl 0, .ex (aC (.int 0))] (l2 gIx))] [] (d_is_name)))) (aNot (aB (aCall 1 [.ex (aOp [.pl 0, .ex (aC (.int 2))] (l2 gIx))] [] (d_is_name))))))) (sRet (aC (.bl false))) sNext)
    (sRet (aAndV (aB (aCall 3 [.ex (aOp [.pl 0, .ex (aC (.int 1))] (l2 gIx)), .ex (aC (.int 0)), .ex (aC c_MOST_NUMBER)] [] (d_is_whole))) (aCall 3 [.ex (aOp [.pl 0, .ex (aC (.int 3))] (l2 gIx)), .ex (aC (.int 0)), .ex (aC c_MOST_NUMBER)] [] (d_is_whole)))))
noncomputable def d__law_pen : aF := aDef [true] 3
    (sSeq (sSet 1 (aC (.int 11)))
    (sSeq (sFor (aItems (aVar 0)) (aN 2) (sSet 1 (aOp [.ex (aOp [.ex (aOp [.ex (aOp [.pl 1, .ex (aC (.int 101))] (l2 gMul)), .pl 2] (l2 gAdd))] (l1 gInt)), .ex (aC (.int 1000000241))] (l2 gMod))))
    (sRet (aDisp [.ex (aFz (aC (.str "cells"))), .ex (aFz (aOp [.pl 0] (l1 gList))), .ex (aFz (aC (.str "at"))), .ex (aFz (aC (.int 0))), .ex (aFz (aC (.str "digits"))), .ex (aFz (aC (.int 0))), .ex (aFz (aC (.str "count"))), .ex (aFz (aC (.int 0))), .ex (aFz (aC (.str "fold"))), .ex (aFz (aVar 1))]))))
noncomputable def d__law_draw : aF := aDef [true, true] 5
    (sSeq (sSub 0 (aOp [.ex (aOp [.pl 0, .ex (aC (.str "count"))] (l2 gIx)), .ex (aC (.int 1))] (l2 gAdd)) (aC (.str "count")))
    (sSeq (sIf (aAnd (aB (aOp [.ex (aOp [.pl 0, .ex (aC (.str "digits"))] (l2 gIx)), .ex (aC (.int 0))] (l2 gEq))) (aB (aOp [.ex (aOp [.pl 0, .ex (aC (.str "at"))] (l2 gIx)), .ex (aOp [.ex (aOp [.pl 0, .ex (aC (.str "cells"))] (l2 gIx))] (l1 gLen))] (l2 gLt)))) (sSeq (sSet 3 (aOp [.ex (aOp [.pl 0, .ex (aC (.str "cells"))] (l2 gIx)), .ex (aOp [.pl 0, .ex (aC (.str "at"))] (l2 gIx))] (l2 gIx)))
    (sSeq (sSub 0 (aOp [.ex (aOp [.pl 0, .ex (aC (.str "at"))] (l2 gIx)), .ex (aC (.int 1))] (l2 gAdd)) (aC (.str "at")))
    (sIf (aB (aOp [.pl 3, .ex (aOp [.ex (aC (.int 10)), .ex (aC (.int 18))] (l2 gPow))] (l2 gGe))) (sSub 0 (aOp [.pl 3, .ex (aOp [.ex (aC (.int 10)), .ex (aC (.int 18))] (l2 gPow))] (l2 gSub)) (aC (.str "digits"))) (sSub 0 (aOp [.ex (aOp [.ex (aOp [.ex (aOp [.ex (aOp [.pl 0, .ex (aC (.str "fold"))] (l2 gIx)), .ex (aC (.int 70009))] (l2 gMul)), .pl 3] (l2 gAdd))] (l1 gInt)), .ex (aC (.int 2147483477))] (l2 gMod)) (aC (.str "fold")))))) sNext)
    (sSeq (sIf (aB (aOp [.ex (aOp [.pl 0, .ex (aC (.str "digits"))] (l2 gIx)), .ex (aC (.int 0))] (l2 gGt))) (sSeq (sSet 4 (aOp [.ex (aOp [.ex (aOp [.pl 0, .ex (aC (.str "digits"))] (l2 gIx))] (l1 gInt)), .pl 1] (l2 gMod)))
    (sSeq (sSub 0 (aOp [.ex (aOp [.pl 0, .ex (aC (.str "digits"))] (l2 gIx)), .pl 1] (l2 gFdiv)) (aC (.str "digits")))
    (sRet (aMove 4)))) sNext)
    (sSeq (sSet 2 (aOp [.ex (aOp [.ex (aOp [.pl 0, .ex (aC (.str "fold"))] (l2 gIx)), .ex (aOp [.ex (aOp [.pl 0, .ex (aC (.str "count"))] (l2 gIx)), .ex (aC (.int 8069))] (l2 gMul))] (l2 gAdd)), .ex (aC (.int 41))] (l2 gAdd)))
    (sRet (aOp [.ex (aOp [.ex (aOp [.ex (aOp [.ex (aOp [.pl 2, .ex (aC (.int 17))] (l2 gPow)), .ex (aC (.int 2305843009213693951))] (l2 gMod))] (l1 gInt)), .ex (aC (.int 128))] (l2 gFdiv)), .pl 1] (l2 gMod)))))))
noncomputable def d__law_pick : aF := aDef [true, true] 2
    (sRet (aOp [.pl 1, .ex (aCall 2 [.pl 0, .ex (aOp [.pl 1] (l1 gLen))] [] (d__law_draw))] (l2 gIx)))
noncomputable def d__law_shuffled : aF := aDef [true, true] 5
    (sSeq (sPar 3 4 (aOp [.pl 1] (l1 gList)) (aOp [] gLstS))
    (sSeq (sFor (aRng1 (aOp [.pl 1] (l1 gLen))) (aN 2) (sDrop (aMeth "list" 4 [.ex (aFz (aMeth "list" 3 [.ex (aFz (aCall 2 [.pl 0, .ex (aOp [.pl 3] (l1 gLen))] [] (d__law_draw)))] fPopAt))] fAppend)))
    (sRet (aMove 4))))
noncomputable def d__law_name : aF := aDef [true, true] 5
    (sSeq (sSet 2 (aC (.str "")))
    (sSeq (sFor (aRng1 (aOp [.ex (aC (.int 1)), .ex (aCall 2 [.pl 0, .ex (aC (.int 8))] [] (d__law_draw))] (l2 gAdd))) (aN 3) (sSet 2 (aOp [.pl 2, .ex (aOp [.ex (aC (.str "abcdefghijklmnopqrstuvwxyz")), .ex (aCall 2 [.pl 0, .ex (aC (.int 26))] [] (d__law_draw))] (l2 gIx))] (l2 gAdd))))
    (sSeq (sSet 4 (aOp [.ex (aC (.int 1)), .ex (aCall 2 [.pl 0, .ex (aOp [.pl 2] (l1 gLen))] [] (d__law_draw))] (l2 gAdd)))
    (sRet (aOp [.ex (aOp [.ex (aSl (.pl 2) none (some (aVar 4)) gSl), .ex (aOp [.pl 1] (l1 gStr))] (l2 gAdd)), .ex (aSl (.pl 2) (some (aVar 4)) none gSl)] (l2 gAdd))))))
noncomputable def d__law_names : aF := aDef [true, true] 3
    (sRet (aCall 2 [.pl 0, .ex (aLc (aRng1 (aVar 1)) [2] (aN 2) aYes (aCall 2 [.pl 0, .pl 2] [] (d__law_name)))] [] (d__law_shuffled)))
noncomputable def b__law_alike (rec : aF) : aF := aDef [true, true] 4
    (sSeq (sIf (aAnd (aB (aOp [.pl 0] (l1 (gIsi2 "tuple" "list")))) (aB (aOp [.pl 1] (l1 (gIsi2 "tuple" "list"))))) (sSeq (sIf (aOr (aB (aOp [.ex (aOp [.pl 0] (l1 (gIsi "tuple"))), .ex (aOp [.pl 1] (l1 (gIsi "tuple")))] (l2 gNe))) (aB (aOp [.ex (aOp [.pl 0] (l1 gLen)), .ex (aOp [.pl 1] (l1 gLen))] (l2 gNe)))) (sRet (aC (.bl false))) sNext)
    (sRet (aOp [.ex (aLc (aZip (aVar 0) (aVar 1)) [2, 3] (aUnp [(aN 2), (aN 3)]) aYes (aCall 2 [.pl 2, .pl 3] [] rec))] (l1 gAll)))) sNext)
    (sSeq (sIf (aB (aOp [.ex (aOp [.pl 0] (l1 (gIsi "bool"))), .ex (aOp [.pl 1] (l1 (gIsi "bool")))] (l2 gNe))) (sRet (aC (.bl false))) sNext)
    (sRet (aOp [.pl 0, .pl 1] (l2 gEqA)))))
noncomputable def d__law_alike : Nat → aF
  | 0 => fun _ => .stuck
  | n + 1 => b__law_alike (d__law_alike n)
noncomputable def d__law_is_name : aF := aDef [true] 2
    (sSeq (sIf (aOr (aNot (aB (aOp [.pl 0] (l1 (gIsi "str"))))) (aOr (aNot (aB (aChain gLe gLe (aC (.int 1)) (aOp [.pl 0] (l1 gLen)) (aC (.int 12))))) (aB (aOp [.ex (aOp [.pl 0, .ex (aC (.int 0))] (l2 gIx)), .ex (aC (.str "abcdefghijklmnopqrstuvwxyz"))] (l2 gNotIn))))) (sRet (aC (.bl false))) sNext)
    (sRet (aOp [.ex (aLc (aItems (aVar 0)) [1] (aN 1) aYes (aOp [.pl 1, .ex (aC (.str "abcdefghijklmnopqrstuvwxyz0123456789"))] (l2 gIn)))] (l1 gAll))))
noncomputable def d__law_plan_rows : aF := aDef [true] 2
    (sRet (aLc (aItems (aFz (aOp [.ex (aOp [.pl 0] (l1 gList))] (l1 gSortD)))) [1] (aN 1) aYes (aOp [.pl 1, .ex (aOp [.pl 0, .pl 1] (l2 gIx))] (l2 gAdd))))
noncomputable def d__law_is_number : aF := aDef [true] 1
    (sRet (aAndV (aB (aOp [.pl 0] (l1 (gIsi "int")))) (aAndV (aB (aTV (aNot (aB (aOp [.pl 0] (l1 (gIsi "bool"))))))) (aChain gLe gLt (aC (.int 0)) (aVar 0) (aOp [.ex (aC (.int 10)), .ex (aC (.int 40))] (l2 gPow))))))
noncomputable def d__law_are_rows : aF := aDef [true] 4
    (sSeq (sIf (aNot (aB (aOp [.pl 0] (l1 (gIsi2 "tuple" "list"))))) (sRet (aC (.bl false))) sNext)
    (sSeq (sFor (aItems (aVar 0)) (aN 1) (sSeq (sIf (aOr (aNot (aB (aOp [.pl 1] (l1 (gIsi "tuple"))))) (aOr (aB (aOp [.ex (aOp [.pl 1] (l1 gLen)), .ex (aC (.int 4))] (l2 gNe))) (aOr (aNot (aB (aCall 1 [.ex (aOp [.pl 1, .ex (aC (.int 0))] (l2 gIx))] [] (d__law_is_name)))) (aNot (aB (aCall 1 [.ex (aOp [.pl 1, .ex (aC (.int 2))] (l2 gIx))] [] (d__law_is_name))))))) (sRet (aC (.bl false))) sNext)
    (sIf (aOr (aNot (aB (aCall 1 [.ex (aOp [.pl 1, .ex (aC (.int 1))] (l2 gIx))] [] (d__law_is_number)))) (aNot (aB (aCall 1 [.ex (aOp [.pl 1, .ex (aC (.int 3))] (l2 gIx))] [] (d__law_is_number))))) (sRet (aC (.bl false))) sNext)))
    (sSeq (sSet 2 (aLc (aItems (aVar 0)) [1] (aN 1) aYes (aSl (.pl 1) none (some (aC (.int 2))) gSl)))
    (sRet (aOp [.ex (aLc (aRng1 (aOp [.pl 2] (l1 gLen))) [3] (aN 3) (aB (aOp [.ex (aOp [.pl 2, .pl 3] (l2 gIx)), .ex (aSl (.pl 2) none (some (aVar 3)) gSl)] (l2 gIn))) (aVar 3)), .ex (aOp [] gLstS)] (l2 gEqE))))))
noncomputable def d_Plan___init__ : aF := aDef [true, true] 3
    (sSeq (sIf (aOr (aNot (aB (aCall 1 [.pl 1] [] (d_is_listed)))) (aNot (aB (aOp [.ex (aLc (aItems (aVar 1)) [2] (aN 2) aYes (aCall 1 [.pl 2] [] (d_is_plan_row)))] (l1 gAll))))) (sRaise 1 ["what", "row"] [.ex (aC (.str "plan")), .ex (aVar 1)]) sNext)
    (sSeq (sIf (aB (aOp [.ex (aOp [.ex (aDcT (aItems (aVar 1)) [2] (aN 2) aYes (aSl (.pl 2) none (some (aC (.int 2))) gSl) (aC (.bl true)))] (l1 gLen)), .ex (aOp [.pl 1] (l1 gLen))] (l2 gLt))) (sRaise 1 ["what", "row"] [.ex (aC (.str "plan")), .ex (aVar 1)]) sNext)
    (sSeq (sFldP 0 2 "rows" (aOp [.ex (aOp [.ex (aOp [.pl 1] (l1 gList))] (l1 gSortD))] (l1 gTuple)))
    (sFldP 0 2 "_told" (aDcT (aItems (aFz (aOp [.pl 0] (l1 (gFld 2 "rows"))))) [2] (aN 2) aYes (aSl (.pl 2) none (some (aC (.int 2))) gSl) (aSl (.pl 2) (some (aC (.int 2))) none gSl))))))
noncomputable def d__law_made : aF := aDef [true] 3
    (sSeq (sTryF (sSet 2 (aOp [.ex (aC (.str "fine")), .ex (aFz (aNew 2 1 [.pl 0] (d_Plan___init__)))] gLstS)) 1 1 2 [.c (.str "row"), .f "what", .f "row"])
    (sRet (aMove 2)))
noncomputable def d__law_bent : aF := aDef [true, true] 7
    (sSeq (sPar 5 6 (aCall 2 [.pl 0, .ex (aOp [.ex (aOp [.pl 1] (l1 gLen)), .ex (aC (.int 1))] (l2 gAdd))] [] (d__law_draw)) (aCall 2 [.pl 0, .ex (aC (.int 4))] [] (d__law_draw)))
    (sSeq (sSet 2 (aCall 2 [.pl 0, .ex (aIfE (aB (aOp [.pl 6, .ex (aOp [.ex (aC (.int 1)), .ex (aC (.int 3))] gLstS)] (l2 gIn))) (aOp [.ex (aFz (aOp [.ex (aC (.int 1))] (l1 gNeg))), .ex (aC .non), .ex (aC (.bl true)), .ex (aC (.str "0")), .ex (aFz (aOp [.ex (aC (.int 10)), .ex (aC (.int 40))] (l2 gPow))), .ex (aFz (aOp [.ex (aOp [.ex (aC (.int 10)), .ex (aC (.int 40))] (l2 gPow)), .ex (aC (.int 1))] (l2 gSub)))] gLstS) (aOp [.ex (aC (.str "")), .ex (aC (.str "1a")), .ex (aC (.str "A")), .ex (aC (.str "a b")), .ex (aFz (aOp [.ex (aC (.str "a")), .ex (aC (.int 13))] (l2 gMulS))), .ex (aC .non), .ex (aC (.int 5))] gLstS))] [] (d__law_pick)))
    (sSeq (sSet 3 (aOp [.ex (aC (.str "ab")), .ex (aC (.int 77)), .ex (aC (.str "cd")), .ex (aC (.int 1))] gTup))
    (sSeq (sSet 3 (aOp [.ex (aOp [.ex (aSl (.pl 3) none (some (aVar 6)) gSl), .ex (aOp [.ex (aVar 2)] gTup)] (l2 gAdd)), .ex (aSl (.pl 3) (some (aOp [.pl 6, .ex (aC (.int 1))] (l2 gAdd))) none gSl)] (l2 gAdd)))
    (sSeq (sSet 4 (aCall 2 [.pl 0, .ex (aC (.int 6))] [] (d__law_draw)))
    (sSeq (sIf (aAnd (aB (aOp [.pl 4, .ex (aC (.int 0))] (l2 gEq))) (aB (aOp [.pl 1, .ex (aOp [] gLstS)] (l2 gNeE)))) (sSet 3 (aOp [.ex (aSl (.ex (aCall 2 [.pl 0, .pl 1] [] (d__law_pick))) none (some (aC (.int 2))) gSl), .ex (aOp [.ex (aC (.str "zz")), .ex (aC (.int 3))] gTup)] (l2 gAdd))) sNext)
    (sSeq (sIf (aB (aOp [.pl 4, .ex (aC (.int 1))] (l2 gEq))) (sSet 3 (aCall 2 [.pl 0, .ex (aOp [.ex (aFz (aOp [.pl 3] (l1 gList))), .ex (aFz (aSl (.pl 3) none (some (aC (.int 3))) gSl)), .ex (aFz (aOp [.pl 3, .ex (aOp [.ex (aC (.int 1))] gTup)] (l2 gAdd))), .ex (aC .non), .ex (aC (.str "ab")), .ex (aFz (aOp [] gTup))] gLstS)] [] (d__law_pick))) sNext)
    (sSeq (sIf (aB (aOp [.pl 4, .ex (aC (.int 2))] (l2 gEq))) (sRet (aCall 2 [.pl 0, .ex (aOp [.ex (aC .non), .ex (aC (.int 5)), .ex (aC (.str "ab")), .ex (aFz aNewD), .ex (aC (.bl true))] gLstS)] [] (d__law_pick))) sNext)
    (sRet (aOp [.ex (aOp [.ex (aSl (.pl 1) none (some (aVar 5)) gSl), .ex (aOp [.ex (aVar 3)] gLstS)] (l2 gAdd)), .ex (aSl (.pl 1) (some (aVar 5)) none gSl)] (l2 gAdd)))))))))))
noncomputable def d_Plan___eq__ : aF := aDef [true, true] 2
    (sRet (aAndV (aB (aOp [.pl 1] (l1 (gIsC 2)))) (aOp [.ex (aOp [.pl 0] (l1 (gFld 2 "rows"))), .ex (aOp [.pl 1] (l1 (gFld 2 "rows")))] (l2 gEq))))
noncomputable def d_Plan_many_notes : aF := aDef [true] 2
    (sRet (aOp [.ex (aC (.int 1)), .ex (aOp [.ex (aOp [.ex (aOp [.ex (aC (.int 0))] gLstS), .ex (aLc (aItems (aFz (aOp [.pl 0] (l1 (gFld 2 "rows"))))) [1] (aN 1) aYes (aOp [.ex (aOp [.pl 1, .ex (aC (.int 1))] (l2 gIx)), .ex (aOp [.pl 1, .ex (aC (.int 3))] (l2 gIx))] (l2 gMax2)))] (l2 gAdd))] (l1 gMaxL))] (l2 gAdd)))
noncomputable def d_Plan___len__ : aF := aDef [true] 1
    (sRet (aOp [.ex (aOp [.pl 0] (l1 (gFld 2 "rows")))] (l1 gLen)))
noncomputable def d_Plan_row_at : aF := aDef [true, true, true] 3
    (sSeq (sIf (aOr (aNot (aB (aCall 1 [.pl 1] [] (d_is_name)))) (aNot (aB (aCall 3 [.pl 2, .ex (aC (.int 0))] [.non] (d_is_whole))))) (sRet (aC .non)) sNext)
    (sRet (aGet1 (aOp [.pl 0] (l1 (gFld 2 "_told"))) (aFz (aOp [.ex (aVar 1), .ex (aVar 2)] gTup)))))
noncomputable def d_law : aF := aDef [true] 15
    (sSeq (sSet 1 (aCall 1 [.pl 0] [] (d__law_pen)))
    (sSeq (sFor (aRng1 (aC (.int 3))) (aN 2) (sSeq (sPar 7 8 (aCall 2 [.pl 1, .ex (aC (.int 4))] [] (d__law_names)) aNewT)
    (sSeq (sFor (aRng1 (aCall 2 [.pl 1, .ex (aC (.int 13))] [] (d__law_draw))) (aN 3) (sSeq (sSet 9 (aOp [.ex (aFz (aCall 2 [.pl 1, .pl 7] [] (d__law_pick))), .ex (aFz (aCall 2 [.pl 1, .ex (aOp [.ex (aC (.int 0)), .ex (aC (.int 1)), .ex (aC (.int 2)), .ex (aFz (aOp [.ex (aC (.int 10)), .ex (aC (.int 39))] (l2 gPow))), .ex (aFz (aCall 2 [.pl 1, .ex (aC (.int 20))] [] (d__law_draw)))] gLstS)] [] (d__law_pick)))] gTup))
    (sSub 8 (aOp [.ex (aFz (aCall 2 [.pl 1, .pl 7] [] (d__law_pick))), .ex (aFz (aCall 2 [.pl 1, .ex (aOp [.ex (aC (.int 0)), .ex (aC (.int 1)), .ex (aC (.int 2)), .ex (aFz (aOp [.ex (aC (.int 3)), .ex (aOp [.ex (aC (.int 10)), .ex (aC (.int 39))] (l2 gPow))] (l2 gMul)))] gLstS)] [] (d__law_pick)))] gTup) (aVar 9))))
    (sSeq (sSet 4 (aCall 2 [.pl 1, .ex (aCall 1 [.pl 8] [] (d__law_plan_rows))] [] (d__law_shuffled)))
    (sSeq (sSet 5 (aCall 1 [.ex (aCall 2 [.pl 1, .ex (aOp [.ex (aFz (aOp [.pl 4] (l1 gList))), .ex (aFz (aOp [.pl 4] (l1 gTuple)))] gLstS)] [] (d__law_pick))] [] (d__law_made)))
    (sSeq (sIf (aOr (aB (aOp [.ex (aOp [.pl 5, .ex (aC (.int 0))] (l2 gIx)), .ex (aC (.str "fine"))] (l2 gNe))) (aOr (aNot (aB (aCall 2 [.ex (aOp [.ex (aOp [.pl 5, .ex (aC (.int 1))] (l2 gIx))] (l1 (gFld 2 "rows"))), .ex (aOp [.ex (aOp [.pl 4] (l1 gSortD))] (l1 gTuple))] [] (d__law_alike 8)))) (aOr (aB (aOp [.ex (aOp [.ex (aOp [.pl 5, .ex (aC (.int 1))] (l2 gIx))] (l1 (gLenI 2 (d_Plan___len__)))), .ex (aOp [.pl 4] (l1 gLen))] (l2 gNe))) (aB (aOp [.ex (aOp [.pl 5, .ex (aC (.int 1))] (l2 gIx)), .ex (aFz (aOp [.ex (aOp [.pl 4] (l1 gSortD))] (l1 gTuple)))] (l2 (gEqI 2 (d_Plan___eq__)))))))) (sRet (aC (.bl false))) sNext)
    (sSeq (sIf (aNot (aB (aCall 2 [.ex (aMth 2 "many_notes" 0 (aOp [.pl 5, .ex (aC (.int 1))] (l2 gIx)) [] (d_Plan_many_notes)), .ex (aOp [.ex (aC (.int 1)), .ex (aOp [.ex (aOp [.ex (aOp [.ex (aC (.int 0))] gLstS), .ex (aLc (aItems (aVar 4)) [14] (aN 14) aYes (aOp [.ex (aOp [.pl 14, .ex (aC (.int 1))] (l2 gIx)), .ex (aOp [.pl 14, .ex (aC (.int 3))] (l2 gIx))] (l2 gMax2)))] (l2 gAdd))] (l1 gMaxL))] (l2 gAdd))] [] (d__law_alike 8)))) (sRet (aC (.bl false))) sNext)
    (sSeq (sFor (aItems (aFz (aOp [.pl 7, .ex (aOp [.ex (aC (.str "zz")), .ex (aC .non), .ex (aC (.int 5))] gLstS)] (l2 gAdd)))) (aN 6) (sFor (aItems (aFz (aOp [.ex (aC (.int 0)), .ex (aC (.int 1)), .ex (aC (.bl true)), .ex (aC .non), .ex (aFz (aOp [.ex (aC (.int 10)), .ex (aC (.int 39))] (l2 gPow))), .ex (aC (.str "0")), .ex (aFz (aOp [.ex (aC (.int 1))] (l1 gNeg)))] gLstS))) (aN 10) (sSeq (sSet 13 (aAndV (aB (aCall 1 [.pl 10] [] (d__law_is_number))) (aAndV (aB (aOp [.pl 6] (l1 (gIsi "str")))) (aOp [.ex (aOp [.ex (aVar 6), .ex (aVar 10)] gTup), .pl 8] (l2 gIn)))))
    (sIf (aNot (aB (aCall 2 [.ex (aMth 2 "row_at" 2 (aOp [.pl 5, .ex (aC (.int 1))] (l2 gIx)) [.pl 6, .pl 10] (d_Plan_row_at)), .ex (aIfE (aTru (.pl 13)) (aOp [.pl 8, .ex (aOp [.ex (aVar 6), .ex (aVar 10)] gTup)] (l2 gIx)) (aC .non))] [] (d__law_alike 8)))) (sRet (aC (.bl false))) sNext))))
    (sSeq (sIf (aAnd (aB (aOp [.pl 4, .ex (aOp [] gLstS)] (l2 gNeE))) (aOr (aB (aOp [.ex (aOp [.pl 5, .ex (aC (.int 1))] (l2 gIx)), .ex (aFz (aNew 2 1 [.ex (aSl (.pl 4) (some (aC (.int 1))) none gSl)] (d_Plan___init__)))] (l2 (gEqI 2 (d_Plan___eq__))))) (aOr (aNot (aB (aOp [.ex (aOp [.pl 5, .ex (aC (.int 1))] (l2 gIx)), .ex (aFz (aNew 2 1 [.ex (aOp [.pl 4] (l1 gRev))] (d_Plan___init__)))] (l2 (gEqI 2 (d_Plan___eq__)))))) (aB (aOp [.ex (aOp [.pl 5, .ex (aC (.int 1))] (l2 gIx)), .ex (aFz (aNew 2 1 [.ex (aOp [.ex (aOp [.ex (aFz (aOp [.ex (aSl (.ex (aOp [.pl 4, .ex (aC (.int 0))] (l2 gIx))) none (some (aC (.int 3))) gSl), .ex (aOp [.ex (aFz (aOp [.ex (aOp [.ex (aOp [.pl 4, .ex (aC (.int 0))] (l2 gIx)), .ex (aC (.int 3))] (l2 gIx)), .ex (aC (.int 1))] (l2 gAdd)))] gTup)] (l2 gAdd)))] gLstS), .ex (aSl (.pl 4) (some (aC (.int 1))) none gSl)] (l2 gAdd))] (d_Plan___init__)))] (l2 (gEqI 2 (d_Plan___eq__)))))))) (sRet (aC (.bl false))) sNext)
    (sFor (aRng1 (aC (.int 6))) (aN 3) (sSeq (sSet 11 (aCall 2 [.pl 1, .pl 4] [] (d__law_bent)))
    (sSeq (sSet 12 (aIfE (aB (aCall 1 [.pl 11] [] (d__law_are_rows))) (aOp [.ex (aC (.str "fine"))] gLstS) (aOp [.ex (aC (.str "row")), .ex (aC (.str "plan")), .ex (aVar 11)] gLstS)))
    (sIf (aNot (aB (aCall 2 [.ex (aSl (.ex (aCall 1 [.pl 11] [] (d__law_made))) none (some (aOp [.pl 12] (l1 gLen))) gSl), .pl 12] [] (d__law_alike 8)))) (sRet (aC (.bl false))) sNext)))))))))))))
    (sRet (aAndV (aB (aOp [.ex (aFz (aNew 2 1 [.ex (aOp [] gTup)] (d_Plan___init__))), .ex (aFz (aNew 2 1 [.ex (aOp [] gLstS)] (d_Plan___init__)))] (l2 (gEqI 2 (d_Plan___eq__))))) (aOp [.ex (aMth 2 "many_notes" 0 (aFz (aNew 2 1 [.ex (aOp [] gTup)] (d_Plan___init__))) [] (d_Plan_many_notes)), .ex (aC (.int 1))] (l2 gEq))))))
section
variable {Γ : Gb} {mg : Str → Option Value} {base : Heap}
abbrev s_BadRow___init__ : Stmt := mtop 2 0
theorem sc_BadRow___init__ : FnScope ["self", "what", "row"] ["self", "what", "row"] (defScope s_BadRow___init__) := ⟨rfl, rfl, rfl, by decide +kernel, rfl, by decide +kernel, by decide +kernel⟩
theorem ok_BadRow___init__ {f : Addr} {fd : FuncData} (F : Fun Γ.K "__init__" "BadRow.__init__" s_BadRow___init__ f fd) (T : OexC Γ.K (Γ.cls 1)) (n1 : PySem.W.findIn Γ.K (.ref (Γ.cls 1)) "what" = some none) (n2 : PySem.W.findIn Γ.K (.ref (Γ.cls 1)) "row" = some none) :
    FnOk Γ.prog Γ.w Γ.K mg base (L2.CX Γ.prog Γ.w) (0 + 1) f fd ["self", "what", "row"] (spX Γ 1 ["what", "row"]) := by
  have S := sc_BadRow___init__
  refine F.okX S (fun vs H Q E h => by obtain ⟨a, ws, rfl, hl, _⟩ := h; rw [List.length_cons, hl]; rfl) fun cdv A outer s H vs Q E hr h => ⟨_, pss_cons (ps_ost (pe_var (i := 0) rfl (by first | exact Or.inl rfl | exact Or.inr (Or.inl rfl) | exact Or.inr (Or.inr rfl)) (by decide) (by decide)) (pe_var (i := 1) rfl (by first | exact Or.inl rfl | exact Or.inr (Or.inl rfl) | exact Or.inr (Or.inr rfl)) (by decide) (by decide))) (pss_one (ps_ost (pe_var (i := 0) rfl (by first | exact Or.inl rfl | exact Or.inr (Or.inl rfl) | exact Or.inr (Or.inr rfl)) (by decide) (by decide)) (pe_var (i := 2) rfl (by first | exact Or.inl rfl | exact Or.inr (Or.inl rfl) | exact Or.inr (Or.inr rfl)) (by decide) (by decide)))), ?_⟩
  obtain ⟨a, ws, rfl, hl, ha, k⟩ := h
  match ws, hl with
  | [y, z], _ => exact rd_init2 T n1 n2 rfl rfl rfl ha fun dx h1 h2 => k dx h1 h2
abbrev s_is_name : Stmt := top 4
theorem sc_is_name : FnScope ["value"] ["value"] (defScope s_is_name) := ⟨rfl, rfl, rfl, by decide +kernel, rfl, by decide +kernel, by decide +kernel⟩
set_option maxHeartbeats 2000000 in
theorem ok_is_name {f : Addr} {fd : FuncData} (F : Fun Γ.K "is_name" "is_name" s_is_name f fd)
    (z_isinstance : mg "isinstance" = none)
    (z_str : mg "str" = none)
    (z_len : mg "len" = none) :
    FnOk Γ.prog Γ.w Γ.K mg base (L2.CX Γ.prog Γ.w) (0 + 1) f fd ["value"] (spD Γ 1 (d_is_name)) := by
  have S := sc_is_name
  refine fn_def (pb := [true]) (m := 1) F S rfl rfl fun cdv A outer s H E hr tk hp => ?_
  exact ⟨_, (al_cons (as_if (at_w (aw_or (at_not (at_val (ae_isi rfl z_isinstance (ao_pl 0) z_str boot_str))) (aw_or (at_not (at_chain ok_le or_le ok_le or_le ae_int (ae_b1 ok_len or_len z_len PySem.boot_len (ao_pl 0)) ae_int)) (aw_or1 (at_not (at_val (ae_stT PySem.F.slot_str_isascii PySem.F.type_str_isascii m_isascii (ao_pl 0)))))))) (al_one (as_ret ae_bl)) al_nil)
      (al_one (as_ret (ae_and2 (ae_stT PySem.F.slot_str_isalnum PySem.F.type_str_isalnum m_isalnum (ao_pl 0)) (ae_and2 (ae_stT PySem.F.slot_str_islower PySem.F.type_str_islower m_islower (ao_pl 0)) (ae_one (ae_stT PySem.F.slot_str_isalpha PySem.F.type_str_isalpha m_isalpha (ao_ex (ae_ix hr rfl (ao_pl 0) (ao_ex ae_int))))))))))⟩
abbrev s_is_whole : Stmt := top 6
theorem sc_is_whole : FnScope ["value", "least", "most"] ["value", "least", "most"] (defScope s_is_whole) := ⟨rfl, rfl, rfl, by decide +kernel, rfl, by decide +kernel, by decide +kernel⟩
set_option maxHeartbeats 2000000 in
theorem ok_is_whole {f : Addr} {fd : FuncData} (F : FunD Γ.K "is_whole" "is_whole" (defArgs s_is_whole) (defBody s_is_whole) (defScope s_is_whole) [toV (.non)] [] f fd)
    (z_isinstance : mg "isinstance" = none)
    (z_int : mg "int" = none)
    (z_bool : mg "bool" = none) :
    FnOk Γ.prog Γ.w Γ.K mg base (L2.CX Γ.prog Γ.w) (0 + 1) f fd ["value", "least", "most"] (spD Γ 3 (d_is_whole)) := by
  have S := sc_is_whole
  refine fn_defD (pb := [true, true, true]) (m := 3) F S rfl rfl fun cdv A outer s H E hr tk hp => ?_
  exact ⟨_, (al_cons (as_if (at_w (aw_or (at_not (at_val (ae_isi rfl z_isinstance (ao_pl 0) z_int boot_int))) (aw_or (at_val (ae_isi rfl z_isinstance (ao_pl 0) z_bool boot_bool)) (aw_or1 (at_cmp ok_lt or_lt (ao_pl 0) (ao_pl 1)))))) (al_one (as_ret ae_bl)) al_nil)
      (al_one (as_ret (ae_or2 (ae_isN (ao_pl 2)) (ae_one (ae_cmp ok_le or_le (ao_pl 0) (ao_pl 2)))))))⟩
abbrev s_is_listed : Stmt := top 7
theorem sc_is_listed : FnScope ["value"] ["value"] (defScope s_is_listed) := ⟨rfl, rfl, rfl, by decide +kernel, rfl, by decide +kernel, by decide +kernel⟩
set_option maxHeartbeats 2000000 in
theorem ok_is_listed {f : Addr} {fd : FuncData} (F : Fun Γ.K "is_listed" "is_listed" s_is_listed f fd)
    (z_isinstance : mg "isinstance" = none)
    (z_tuple : mg "tuple" = none)
    (z_list : mg "list" = none) :
    FnOk Γ.prog Γ.w Γ.K mg base (L2.CX Γ.prog Γ.w) (0 + 1) f fd ["value"] (spD Γ 1 (d_is_listed)) := by
  have S := sc_is_listed
  refine fn_def (pb := [true]) (m := 1) F S rfl rfl fun cdv A outer s H E hr tk hp => ?_
  exact ⟨_, (al_one (as_ret (ae_isi2 rfl z_isinstance (ao_pl 0) z_tuple boot_tuple z_list boot_list)))⟩
abbrev s_is_plan_row : Stmt := top 10
theorem sc_is_plan_row : FnScope ["value"] ["value"] (defScope s_is_plan_row) := ⟨rfl, rfl, rfl, by decide +kernel, rfl, by decide +kernel, by decide +kernel⟩
set_option maxHeartbeats 2000000 in
theorem ok_is_plan_row {f : Addr} {fd : FuncData} (F : Fun Γ.K "is_plan_row" "is_plan_row" s_is_plan_row f fd)
    (C_is_name : Cl Γ mg base 1 "is_name" 1 [] (d_is_name))
    (C_is_whole_0 : Cl Γ mg base 1 "is_whole" 3 [] (d_is_whole))
    (C_is_whole_1 : Cl Γ mg base 1 "is_whole" 3 [.non] (d_is_whole))
    (z_isinstance : mg "isinstance" = none)
    (z_tuple : mg "tuple" = none)
    (z_len : mg "len" = none)
    (g_MOST_NUMBER : GC Γ mg "MOST_NUMBER" (toV c_MOST_NUMBER) c_MOST_NUMBER) :
    FnOk Γ.prog Γ.w Γ.K mg base (L2.CX Γ.prog Γ.w) (1 + 1) f fd ["value"] (spD Γ 1 (d_is_plan_row)) := by
  have S := sc_is_plan_row
  refine fn_def (pb := [true]) (m := 1) F S rfl rfl fun cdv A outer s H E hr tk hp => ?_
  exact ⟨_, (al_cons (as_if (at_w (aw_or (at_not (at_val (ae_isi rfl z_isinstance (ao_pl 0) z_tuple boot_tuple))) (aw_or (at_cmp ok_ne (or_ne hr.units) (ao_ex (ae_b1 ok_len or_len z_len PySem.boot_len (ao_pl 0))) (ao_ex ae_int)) (aw_or (at_not (at_val (ae_call rfl rfl rfl C_is_name (hr.mono (by decide : 1 ≤ 1)) tk (aa_cons (ao_ex (ae_ix hr rfl (ao_pl 0) (ao_ex ae_int))) aa_nil)))) (aw_or1 (at_not (at_val (ae_call rfl rfl rfl C_is_name (hr.mono (by decide : 1 ≤ 1)) tk (aa_cons (ao_ex (ae_ix hr rfl (ao_pl 0) (ao_ex ae_int))) aa_nil))))))))) (al_one (as_ret ae_bl)) al_nil)
      (al_one (as_ret (ae_and2 (ae_call rfl rfl rfl C_is_whole_0 (hr.mono (by decide : 1 ≤ 1)) tk (aa_cons (ao_ex (ae_ix hr rfl (ao_pl 0) (ao_ex ae_int))) (aa_cons (ao_ex ae_int) (aa_cons (ao_ex (ae_gc g_MOST_NUMBER)) aa_nil)))) (ae_one (ae_call rfl rfl rfl C_is_whole_0 (hr.mono (by decide : 1 ≤ 1)) tk (aa_cons (ao_ex (ae_ix hr rfl (ao_pl 0) (ao_ex ae_int))) (aa_cons (ao_ex ae_int) (aa_cons (ao_ex (ae_gc g_MOST_NUMBER)) aa_nil)))))))))⟩
abbrev s__law_pen : Stmt := top 13
theorem sc__law_pen : FnScope ["script", "fold", "cell"] ["script"] (defScope s__law_pen) := ⟨rfl, rfl, rfl, by decide +kernel, rfl, by decide +kernel, by decide +kernel⟩
set_option maxHeartbeats 2000000 in
theorem ok__law_pen {f : Addr} {fd : FuncData} (F : Fun Γ.K "_law_pen" "_law_pen" s__law_pen f fd)
    (z_int : mg "int" = none)
    (z_list : mg "list" = none) :
    FnOk Γ.prog Γ.w Γ.K mg base (L2.CX Γ.prog Γ.w) (0 + 1) f fd ["script"] (spD Γ 1 (d__law_pen)) := by
  have S := sc__law_pen
  refine fn_def (pb := [true]) (m := 3) F S rfl rfl fun cdv A outer s H E hr tk hp => ?_
  exact ⟨_, (al_cons (as_set 1 S.nd ae_int)
      (al_cons (as_for (vs := [2]) hp (ai_any rfl (ae_var 0)) (ag_name 2 S.nd) (al_one (as_set 1 S.nd (ae_bin ok_mod op_mod (ao_ex (ae_t1 ok_int or_int z_int boot_int (ao_ex (ae_bin ok_add or_add (ao_ex (ae_bin ok_mul or_mul (ao_pl 1) (ao_ex ae_int))) (ao_pl 2))))) (ao_ex ae_int)))))
      (al_one (as_ret (ae_disp (app_cons ae_str (ae_t1 ok_list (or_list rfl) z_list boot_list (ao_pl 0)) (app_cons ae_str ae_int (app_cons ae_str ae_int (app_cons ae_str ae_int (app_cons ae_str (ae_var 1) app_nil))))))))))⟩
abbrev s__law_draw : Stmt := top 14
theorem sc__law_draw : FnScope ["pen", "many", "blend", "cell", "digit"] ["pen", "many"] (defScope s__law_draw) := ⟨rfl, rfl, rfl, by decide +kernel, rfl, by decide +kernel, by decide +kernel⟩
set_option maxHeartbeats 2000000 in
theorem ok__law_draw {f : Addr} {fd : FuncData} (F : Fun Γ.K "_law_draw" "_law_draw" s__law_draw f fd)
    (z_len : mg "len" = none)
    (z_int : mg "int" = none) :
    FnOk Γ.prog Γ.w Γ.K mg base (L2.CX Γ.prog Γ.w) (0 + 1) f fd ["pen", "many"] (spD Γ 2 (d__law_draw)) := by
  have S := sc__law_draw
  refine fn_def (pb := [true, true]) (m := 5) F S rfl rfl fun cdv A outer s H E hr tk hp => ?_
  exact ⟨_, (al_cons (as_sub 0 hr (ae_bin ok_add or_add (ao_ex (ae_ix hr rfl (ao_pl 0) (ao_ex ae_str))) (ao_ex ae_int)) ae_str)
      (al_cons (as_if (at_w (aw_and (at_cmp ok_eq (or_eq hr.units) (ao_ex (ae_ix hr rfl (ao_pl 0) (ao_ex ae_str))) (ao_ex ae_int)) (aw_and1 (at_cmp ok_lt or_lt (ao_ex (ae_ix hr rfl (ao_pl 0) (ao_ex ae_str))) (ao_ex (ae_b1 ok_len or_len z_len PySem.boot_len (ao_ex (ae_ix hr rfl (ao_pl 0) (ao_ex ae_str))))))))) (al_cons (as_set 3 S.nd (ae_ix hr rfl (ao_ex (ae_ix hr rfl (ao_pl 0) (ao_ex ae_str))) (ao_ex (ae_ix hr rfl (ao_pl 0) (ao_ex ae_str)))))
      (al_cons (as_sub 0 hr (ae_bin ok_add or_add (ao_ex (ae_ix hr rfl (ao_pl 0) (ao_ex ae_str))) (ao_ex ae_int)) ae_str)
      (al_one (as_if (at_cmp ok_ge or_ge (ao_pl 3) (ao_ex (ae_bin ok_pow op_pow (ao_ex ae_int) (ao_ex ae_int)))) (al_one (as_sub 0 hr (ae_bin ok_sub op_sub (ao_pl 3) (ao_ex (ae_bin ok_pow op_pow (ao_ex ae_int) (ao_ex ae_int)))) ae_str)) (al_one (as_sub 0 hr (ae_bin ok_mod op_mod (ao_ex (ae_t1 ok_int or_int z_int boot_int (ao_ex (ae_bin ok_add or_add (ao_ex (ae_bin ok_mul or_mul (ao_ex (ae_ix hr rfl (ao_pl 0) (ao_ex ae_str))) (ao_ex ae_int))) (ao_pl 3))))) (ao_ex ae_int)) ae_str)))))) al_nil)
      (al_cons (as_if (at_cmp ok_gt or_gt (ao_ex (ae_ix hr rfl (ao_pl 0) (ao_ex ae_str))) (ao_ex ae_int)) (al_cons (as_set 4 S.nd (ae_bin ok_mod op_mod (ao_ex (ae_t1 ok_int or_int z_int boot_int (ao_ex (ae_ix hr rfl (ao_pl 0) (ao_ex ae_str))))) (ao_pl 1)))
      (al_cons (as_sub 0 hr (ae_bin ok_fdiv op_fdiv (ao_ex (ae_ix hr rfl (ao_pl 0) (ao_ex ae_str))) (ao_pl 1)) ae_str)
      (al_one (as_ret (ae_move 4))))) al_nil)
      (al_cons (as_set 2 S.nd (ae_bin ok_add or_add (ao_ex (ae_bin ok_add or_add (ao_ex (ae_ix hr rfl (ao_pl 0) (ao_ex ae_str))) (ao_ex (ae_bin ok_mul or_mul (ao_ex (ae_ix hr rfl (ao_pl 0) (ao_ex ae_str))) (ao_ex ae_int))))) (ao_ex ae_int)))
      (al_one (as_ret (ae_bin ok_mod op_mod (ao_ex (ae_bin ok_fdiv op_fdiv (ao_ex (ae_t1 ok_int or_int z_int boot_int (ao_ex (ae_bin ok_mod op_mod (ao_ex (ae_bin ok_pow op_pow (ao_pl 2) (ao_ex ae_int))) (ao_ex ae_int))))) (ao_ex ae_int))) (ao_pl 1))))))))⟩
abbrev s__law_pick : Stmt := top 15
theorem sc__law_pick : FnScope ["pen", "some"] ["pen", "some"] (defScope s__law_pick) := ⟨rfl, rfl, rfl, by decide +kernel, rfl, by decide +kernel, by decide +kernel⟩
set_option maxHeartbeats 2000000 in
theorem ok__law_pick {f : Addr} {fd : FuncData} (F : Fun Γ.K "_law_pick" "_law_pick" s__law_pick f fd)
    (C__law_draw : Cl Γ mg base 1 "_law_draw" 2 [] (d__law_draw))
    (z_len : mg "len" = none) :
    FnOk Γ.prog Γ.w Γ.K mg base (L2.CX Γ.prog Γ.w) (1 + 1) f fd ["pen", "some"] (spD Γ 2 (d__law_pick)) := by
  have S := sc__law_pick
  refine fn_def (pb := [true, true]) (m := 2) F S rfl rfl fun cdv A outer s H E hr tk hp => ?_
  exact ⟨_, (al_one (as_ret (ae_ix hr rfl (ao_pl 1) (ao_ex (ae_call rfl rfl rfl C__law_draw (hr.mono (by decide : 1 ≤ 1)) tk (aa_cons (ao_pl 0) (aa_cons (ao_ex (ae_b1 ok_len or_len z_len PySem.boot_len (ao_pl 1))) aa_nil)))))))⟩
abbrev s__law_shuffled : Stmt := top 16
theorem sc__law_shuffled : FnScope ["pen", "some", "lap", "left", "found"] ["pen", "some"] (defScope s__law_shuffled) := ⟨rfl, rfl, rfl, by decide +kernel, rfl, by decide +kernel, by decide +kernel⟩
set_option maxHeartbeats 2000000 in
theorem ok__law_shuffled {f : Addr} {fd : FuncData} (F : Fun Γ.K "_law_shuffled" "_law_shuffled" s__law_shuffled f fd)
    (C__law_draw : Cl Γ mg base 1 "_law_draw" 2 [] (d__law_draw))
    (z_list : mg "list" = none)
    (z_range : mg "range" = none)
    (z_len : mg "len" = none) :
    FnOk Γ.prog Γ.w Γ.K mg base (L2.CX Γ.prog Γ.w) (1 + 1) f fd ["pen", "some"] (spD Γ 2 (d__law_shuffled)) := by
  have S := sc__law_shuffled
  refine fn_def (pb := [true, true]) (m := 5) F S rfl rfl fun cdv A outer s H E hr tk hp => ?_
  exact ⟨_, (al_cons (as_par 3 4 S.nd (ae_t1 ok_list (or_list rfl) z_list boot_list (ao_pl 1)) (ae_lst aa_nil))
      (al_cons (as_for (vs := [2]) hp (ai_rng1 z_range (ae_b1 ok_len or_len z_len PySem.boot_len (ao_pl 1))) (ag_name 2 S.nd) (al_one (as_expr (ae_meth 4 rfl m_append mt_append PySem.F.plainAttrs_list PySem.F.slot_list_append PySem.F.type_list_append (aa_cons (ao_fz (ae_meth 3 rfl m_popAt mt_popAt PySem.F.plainAttrs_list PySem.F.slot_list_pop PySem.F.type_list_pop (aa_cons (ao_fz (ae_call rfl rfl rfl C__law_draw (hr.mono (by decide : 1 ≤ 1)) tk (aa_cons (ao_pl 0) (aa_cons (ao_ex (ae_b1 ok_len or_len z_len PySem.boot_len (ao_pl 3))) aa_nil)))) aa_nil))) aa_nil)))))
      (al_one (as_ret (ae_move 4)))))⟩
abbrev s__law_name : Stmt := top 17
theorem sc__law_name : FnScope ["pen", "index", "word", "spot", "place"] ["pen", "index"] (defScope s__law_name) := ⟨rfl, rfl, rfl, by decide +kernel, rfl, by decide +kernel, by decide +kernel⟩
set_option maxHeartbeats 2000000 in
theorem ok__law_name {f : Addr} {fd : FuncData} (F : Fun Γ.K "_law_name" "_law_name" s__law_name f fd)
    (C__law_draw : Cl Γ mg base 1 "_law_draw" 2 [] (d__law_draw))
    (z_range : mg "range" = none)
    (z_len : mg "len" = none)
    (z_str : mg "str" = none) :
    FnOk Γ.prog Γ.w Γ.K mg base (L2.CX Γ.prog Γ.w) (1 + 1) f fd ["pen", "index"] (spD Γ 2 (d__law_name)) := by
  have S := sc__law_name
  refine fn_def (pb := [true, true]) (m := 5) F S rfl rfl fun cdv A outer s H E hr tk hp => ?_
  exact ⟨_, (al_cons (as_set 2 S.nd ae_str)
      (al_cons (as_for (vs := [3]) hp (ai_rng1 z_range (ae_bin ok_add or_add (ao_ex ae_int) (ao_ex (ae_call rfl rfl rfl C__law_draw (hr.mono (by decide : 1 ≤ 1)) tk (aa_cons (ao_pl 0) (aa_cons (ao_ex ae_int) aa_nil)))))) (ag_name 3 S.nd) (al_one (as_set 2 S.nd (ae_bin ok_add or_add (ao_pl 2) (ao_ex (ae_ix hr rfl (ao_ex ae_str) (ao_ex (ae_call rfl rfl rfl C__law_draw (hr.mono (by decide : 1 ≤ 1)) tk (aa_cons (ao_pl 0) (aa_cons (ao_ex ae_int) aa_nil))))))))))
      (al_cons (as_set 4 S.nd (ae_bin ok_add or_add (ao_ex ae_int) (ao_ex (ae_call rfl rfl rfl C__law_draw (hr.mono (by decide : 1 ≤ 1)) tk (aa_cons (ao_pl 0) (aa_cons (ao_ex (ae_b1 ok_len or_len z_len PySem.boot_len (ao_pl 2))) aa_nil))))))
      (al_one (as_ret (ae_bin ok_add or_add (ao_ex (ae_bin ok_add or_add (ao_ex (ae_sl rfl (ao_pl 2) ap_none (ap_some (ae_var 4)))) (ao_ex (ae_t1 ok_str or_str z_str boot_str (ao_pl 1))))) (ao_ex (ae_sl rfl (ao_pl 2) (ap_some (ae_var 4)) ap_none))))))))⟩
abbrev s__law_names : Stmt := top 18
theorem sc__law_names : FnScope ["pen", "many", "index"] ["pen", "many"] (defScope s__law_names) := ⟨rfl, rfl, rfl, by decide +kernel, rfl, by decide +kernel, by decide +kernel⟩
set_option maxHeartbeats 2000000 in
theorem ok__law_names {f : Addr} {fd : FuncData} (F : Fun Γ.K "_law_names" "_law_names" s__law_names f fd)
    (C__law_shuffled : Cl Γ mg base 2 "_law_shuffled" 2 [] (d__law_shuffled))
    (C__law_name : Cl Γ mg base 2 "_law_name" 2 [] (d__law_name))
    (z_range : mg "range" = none) :
    FnOk Γ.prog Γ.w Γ.K mg base (L2.CX Γ.prog Γ.w) (2 + 1) f fd ["pen", "many"] (spD Γ 2 (d__law_names)) := by
  have S := sc__law_names
  refine fn_def (pb := [true, true]) (m := 3) F S rfl rfl fun cdv A outer s H E hr tk hp => ?_
  exact ⟨_, (al_one (as_ret (ae_call rfl rfl rfl C__law_shuffled (hr.mono (by decide : 2 ≤ 2)) tk (aa_cons (ao_pl 0) (aa_cons (ao_ex (ae_lc [("index", 2)] S.nd (ai_rng1 z_range (ae_var 1)) (fun _ _ _ _ _ => (ag_name 2 S.nd)) (fun _ _ _ _ _ => apt_nil) (fun _ _ _ _ _ => (ae_call rfl rfl rfl C__law_name (hr.mono (by decide : 2 ≤ 2)) takes0 (aa_cons (ao_pl 0) (aa_cons (ao_pl 2) aa_nil)))))) aa_nil)))))⟩
abbrev s__law_alike : Stmt := top 19
theorem sc__law_alike : FnScope ["one", "other", "a", "b"] ["one", "other"] (defScope s__law_alike) := ⟨rfl, rfl, rfl, by decide +kernel, rfl, by decide +kernel, by decide +kernel⟩
set_option maxHeartbeats 2000000 in
theorem ok__law_alike {n : Nat} {f : Addr} {fd : FuncData} (F : Fun Γ.K "_law_alike" "_law_alike" s__law_alike f fd)
    (C__law_alike : Cl Γ mg base (0 + n) "_law_alike" 2 [] (d__law_alike n))
    (z_isinstance : mg "isinstance" = none)
    (z_tuple : mg "tuple" = none)
    (z_list : mg "list" = none)
    (z_len : mg "len" = none)
    (z_zip : mg "zip" = none)
    (z_all : mg "all" = none)
    (z_bool : mg "bool" = none) :
    FnOk Γ.prog Γ.w Γ.K mg base (L2.CX Γ.prog Γ.w) (0 + n + 1) f fd ["one", "other"] (spD Γ 2 (b__law_alike (d__law_alike n))) := by
  have S := sc__law_alike
  refine fn_def (pb := [true, true]) (m := 4) F S rfl rfl fun cdv A outer s H E hr tk hp => ?_
  exact ⟨_, (al_cons (as_if (at_w (aw_and (at_val (ae_isi2 rfl z_isinstance (ao_pl 0) z_tuple boot_tuple z_list boot_list)) (aw_and1 (at_val (ae_isi2 rfl z_isinstance (ao_pl 1) z_tuple boot_tuple z_list boot_list))))) (al_cons (as_if (at_w (aw_or (at_cmp ok_ne (or_ne hr.units) (ao_ex (ae_isi rfl z_isinstance (ao_pl 0) z_tuple boot_tuple)) (ao_ex (ae_isi rfl z_isinstance (ao_pl 1) z_tuple boot_tuple))) (aw_or1 (at_cmp ok_ne (or_ne hr.units) (ao_ex (ae_b1 ok_len or_len z_len PySem.boot_len (ao_pl 0))) (ao_ex (ae_b1 ok_len or_len z_len PySem.boot_len (ao_pl 1))))))) (al_one (as_ret ae_bl)) al_nil)
      (al_one (as_ret (ae_b1 ok_all (cr_all rfl) z_all b_all (ao_ex (ae_lc [("a", 2), ("b", 3)] S.nd (ai_zip rfl z_zip (ae_var 0) (ae_var 1)) (fun _ _ _ _ _ => (ag_unp (n := 2) rfl (ags_cons (ag_name 2 S.nd) (ags_cons (ag_name 3 S.nd) ags_nil)))) (fun _ _ _ _ _ => apt_nil) (fun _ _ _ _ _ => (ae_call rfl rfl rfl C__law_alike (hr.mono (Nat.le_refl _)) takes0 (aa_cons (ao_pl 2) (aa_cons (ao_pl 3) aa_nil)))))))))) al_nil)
      (al_cons (as_if (at_cmp ok_ne (or_ne hr.units) (ao_ex (ae_isi rfl z_isinstance (ao_pl 0) z_bool boot_bool)) (ao_ex (ae_isi rfl z_isinstance (ao_pl 1) z_bool boot_bool))) (al_one (as_ret ae_bl)) al_nil)
      (al_one (as_ret (ae_cmp ok_eqA (or_eqA hr.units) (ao_pl 0) (ao_pl 1))))))⟩
abbrev s__law_is_name : Stmt := top 20
theorem sc__law_is_name : FnScope ["value", "sign"] ["value"] (defScope s__law_is_name) := ⟨rfl, rfl, rfl, by decide +kernel, rfl, by decide +kernel, by decide +kernel⟩
set_option maxHeartbeats 2000000 in
theorem ok__law_is_name {f : Addr} {fd : FuncData} (F : Fun Γ.K "_law_is_name" "_law_is_name" s__law_is_name f fd)
    (z_isinstance : mg "isinstance" = none)
    (z_str : mg "str" = none)
    (z_len : mg "len" = none)
    (z_all : mg "all" = none) :
    FnOk Γ.prog Γ.w Γ.K mg base (L2.CX Γ.prog Γ.w) (0 + 1) f fd ["value"] (spD Γ 1 (d__law_is_name)) := by
  have S := sc__law_is_name
  refine fn_def (pb := [true]) (m := 2) F S rfl rfl fun cdv A outer s H E hr tk hp => ?_
  exact ⟨_, (al_cons (as_if (at_w (aw_or (at_not (at_val (ae_isi rfl z_isinstance (ao_pl 0) z_str boot_str))) (aw_or (at_not (at_chain ok_le or_le ok_le or_le ae_int (ae_b1 ok_len or_len z_len PySem.boot_len (ao_pl 0)) ae_int)) (aw_or1 (at_cmp ok_notIn (or_notIn (room65 hr)) (ao_ex (ae_ix hr rfl (ao_pl 0) (ao_ex ae_int))) (ao_ex ae_str)))))) (al_one (as_ret ae_bl)) al_nil)
      (al_one (as_ret (ae_b1 ok_all (cr_all rfl) z_all b_all (ao_ex (ae_lc [("sign", 1)] S.nd (ai_any rfl (ae_var 0)) (fun _ _ _ _ _ => (ag_name 1 S.nd)) (fun _ _ _ _ _ => apt_nil) (fun _ _ _ _ _ => (ae_cmp ok_in (or_in (room65 hr)) (ao_pl 1) (ao_ex ae_str)))))))))⟩
abbrev s__law_plan_rows : Stmt := top 21
theorem sc__law_plan_rows : FnScope ["plan", "key"] ["plan"] (defScope s__law_plan_rows) := ⟨rfl, rfl, rfl, by decide +kernel, rfl, by decide +kernel, by decide +kernel⟩
set_option maxHeartbeats 2000000 in
theorem ok__law_plan_rows {f : Addr} {fd : FuncData} (F : Fun Γ.K "_law_plan_rows" "_law_plan_rows" s__law_plan_rows f fd)
    (z_list : mg "list" = none)
    (z_sorted : mg "sorted" = none) :
    FnOk Γ.prog Γ.w Γ.K mg base (L2.CX Γ.prog Γ.w) (0 + 1) f fd ["plan"] (spD Γ 1 (d__law_plan_rows)) := by
  have S := sc__law_plan_rows
  refine fn_def (pb := [true]) (m := 2) F S rfl rfl fun cdv A outer s H E hr tk hp => ?_
  exact ⟨_, (al_one (as_ret (ae_lc [("key", 1)] S.nd (ai_any rfl (ae_fz (ae_b1 ok_sortD (cr_sortD hr.units) z_sorted b_sorted (ao_ex (ae_t1 ok_list (or_list rfl) z_list boot_list (ao_pl 0)))))) (fun _ _ _ _ _ => (ag_name 1 S.nd)) (fun _ _ _ _ _ => apt_nil) (fun _ _ _ _ _ => (ae_bin ok_add or_add (ao_pl 1) (ao_ex (ae_ix hr rfl (ao_pl 0) (ao_pl 1))))))))⟩
abbrev s__law_is_number : Stmt := top 22
theorem sc__law_is_number : FnScope ["value"] ["value"] (defScope s__law_is_number) := ⟨rfl, rfl, rfl, by decide +kernel, rfl, by decide +kernel, by decide +kernel⟩
set_option maxHeartbeats 2000000 in
theorem ok__law_is_number {f : Addr} {fd : FuncData} (F : Fun Γ.K "_law_is_number" "_law_is_number" s__law_is_number f fd)
    (z_isinstance : mg "isinstance" = none)
    (z_int : mg "int" = none)
    (z_bool : mg "bool" = none) :
    FnOk Γ.prog Γ.w Γ.K mg base (L2.CX Γ.prog Γ.w) (0 + 1) f fd ["value"] (spD Γ 1 (d__law_is_number)) := by
  have S := sc__law_is_number
  refine fn_def (pb := [true]) (m := 1) F S rfl rfl fun cdv A outer s H E hr tk hp => ?_
  exact ⟨_, (al_one (as_ret (ae_and2 (ae_isi rfl z_isinstance (ao_pl 0) z_int boot_int) (ae_and2 (ae_not (ae_isi rfl z_isinstance (ao_pl 0) z_bool boot_bool)) (ae_one (ae_chain ok_le or_le ok_lt or_lt ae_int (ae_var 0) (ae_bin ok_pow op_pow (ao_ex ae_int) (ao_ex ae_int))))))))⟩
abbrev s__law_are_rows : Stmt := top 23
theorem sc__law_are_rows : FnScope ["rows", "row", "keys", "at"] ["rows"] (defScope s__law_are_rows) := ⟨rfl, rfl, rfl, by decide +kernel, rfl, by decide +kernel, by decide +kernel⟩
set_option maxHeartbeats 2000000 in
theorem ok__law_are_rows {f : Addr} {fd : FuncData} (F : Fun Γ.K "_law_are_rows" "_law_are_rows" s__law_are_rows f fd)
    (C__law_is_name : Cl Γ mg base 1 "_law_is_name" 1 [] (d__law_is_name))
    (C__law_is_number : Cl Γ mg base 1 "_law_is_number" 1 [] (d__law_is_number))
    (z_isinstance : mg "isinstance" = none)
    (z_tuple : mg "tuple" = none)
    (z_list : mg "list" = none)
    (z_len : mg "len" = none)
    (z_range : mg "range" = none) :
    FnOk Γ.prog Γ.w Γ.K mg base (L2.CX Γ.prog Γ.w) (1 + 1) f fd ["rows"] (spD Γ 1 (d__law_are_rows)) := by
  have S := sc__law_are_rows
  refine fn_def (pb := [true]) (m := 4) F S rfl rfl fun cdv A outer s H E hr tk hp => ?_
  exact ⟨_, (al_cons (as_if (at_not (at_val (ae_isi2 rfl z_isinstance (ao_pl 0) z_tuple boot_tuple z_list boot_list))) (al_one (as_ret ae_bl)) al_nil)
      (al_cons (as_for (vs := [1]) hp (ai_any rfl (ae_var 0)) (ag_name 1 S.nd) (al_cons (as_if (at_w (aw_or (at_not (at_val (ae_isi rfl z_isinstance (ao_pl 1) z_tuple boot_tuple))) (aw_or (at_cmp ok_ne (or_ne hr.units) (ao_ex (ae_b1 ok_len or_len z_len PySem.boot_len (ao_pl 1))) (ao_ex ae_int)) (aw_or (at_not (at_val (ae_call rfl rfl rfl C__law_is_name (hr.mono (by decide : 1 ≤ 1)) tk (aa_cons (ao_ex (ae_ix hr rfl (ao_pl 1) (ao_ex ae_int))) aa_nil)))) (aw_or1 (at_not (at_val (ae_call rfl rfl rfl C__law_is_name (hr.mono (by decide : 1 ≤ 1)) tk (aa_cons (ao_ex (ae_ix hr rfl (ao_pl 1) (ao_ex ae_int))) aa_nil))))))))) (al_one (as_ret ae_bl)) al_nil)
      (al_one (as_if (at_w (aw_or (at_not (at_val (ae_call rfl rfl rfl C__law_is_number (hr.mono (by decide : 1 ≤ 1)) tk (aa_cons (ao_ex (ae_ix hr rfl (ao_pl 1) (ao_ex ae_int))) aa_nil)))) (aw_or1 (at_not (at_val (ae_call rfl rfl rfl C__law_is_number (hr.mono (by decide : 1 ≤ 1)) tk (aa_cons (ao_ex (ae_ix hr rfl (ao_pl 1) (ao_ex ae_int))) aa_nil))))))) (al_one (as_ret ae_bl)) al_nil))))
      (al_cons (as_set 2 S.nd (ae_lc [("row", 1)] S.nd (ai_any rfl (ae_var 0)) (fun _ _ _ _ _ => (ag_name 1 S.nd)) (fun _ _ _ _ _ => apt_nil) (fun _ _ _ _ _ => (ae_sl rfl (ao_pl 1) ap_none (ap_some ae_int)))))
      (al_one (as_ret (ae_cmp ok_eqE (or_eqE hr.units0) (ao_ex (ae_lc [("at", 3)] S.nd (ai_rng1 z_range (ae_b1 ok_len or_len z_len PySem.boot_len (ao_pl 2))) (fun _ _ _ _ _ => (ag_name 3 S.nd)) (fun _ _ _ _ _ => (apt_one (at_cmp ok_in (or_in (room65 hr)) (ao_ex (ae_ix hr rfl (ao_pl 2) (ao_pl 3))) (ao_ex (ae_sl rfl (ao_pl 2) ap_none (ap_some (ae_var 3))))))) (fun _ _ _ _ _ => (ae_var 3)))) (ao_ex (ae_lst aa_nil))))))))⟩
abbrev s_Plan___init__ : Stmt := mtop 11 0
theorem sc_Plan___init__ : FnScope ["self", "rows", "row"] ["self", "rows"] (defScope s_Plan___init__) := ⟨rfl, rfl, rfl, by decide +kernel, rfl, by decide +kernel, by decide +kernel⟩
set_option maxHeartbeats 2000000 in
theorem ok_Plan___init__ {f : Addr} {fd : FuncData} (F : Fun Γ.K "__init__" "Plan.__init__" s_Plan___init__ f fd)
    (X_BadRow : ClX Γ mg base 1 "BadRow" 1 ["what", "row"])
    (cc_Plan : Cls Γ.K (Γ.cls 2))
    (na_Plan_rows : NoAttr Γ.K (Γ.cls 2) "rows")
    (na_Plan__told : NoAttr Γ.K (Γ.cls 2) "_told")
    (C_is_listed : Cl Γ mg base 1 "is_listed" 1 [] (d_is_listed))
    (C_is_plan_row : Cl Γ mg base 2 "is_plan_row" 1 [] (d_is_plan_row))
    (z_all : mg "all" = none)
    (z_len : mg "len" = none)
    (z_list : mg "list" = none)
    (z_sorted : mg "sorted" = none)
    (z_tuple : mg "tuple" = none) :
    FnOk Γ.prog Γ.w Γ.K mg base (L2.CX Γ.prog Γ.w) (2 + 1) f fd ["self", "rows"] (spD Γ 2 (d_Plan___init__)) := by
  have S := sc_Plan___init__
  refine fn_def (pb := [true, true]) (m := 3) F S rfl rfl fun cdv A outer s H E hr tk hp => ?_
  exact ⟨_, (al_cons (as_if (at_w (aw_or (at_not (at_val (ae_call rfl rfl rfl C_is_listed (hr.mono (by decide : 1 ≤ 2)) tk (aa_cons (ao_pl 1) aa_nil)))) (aw_or1 (at_not (at_val (ae_b1 ok_all (cr_all rfl) z_all b_all (ao_ex (ae_lc [("row", 2)] S.nd (ai_any rfl (ae_var 1)) (fun _ _ _ _ _ => (ag_name 2 S.nd)) (fun _ _ _ _ _ => apt_nil) (fun _ _ _ _ _ => (ae_call rfl rfl rfl C_is_plan_row (hr.mono (by decide : 2 ≤ 2)) takes0 (aa_cons (ao_pl 2) aa_nil))))))))))) (al_one (as_raise rfl rfl rfl X_BadRow (hr.mono (by decide : 2 ≤ 2)) tk (aa_cons (ao_ex ae_str) (aa_cons (ao_ex (ae_var 1)) aa_nil)))) al_nil)
      (al_cons (as_if (at_cmp ok_lt or_lt (ao_ex (ae_b1 ok_len or_len z_len PySem.boot_len (ao_ex (ae_dcT [("row", 2)] hr S.nd (ai_any rfl (ae_var 1)) (fun _ _ _ _ _ => (ag_name 2 S.nd)) (fun _ _ _ _ _ => apt_nil) (fun _ _ _ _ _ => (ae_sl rfl (ao_pl 2) ap_none (ap_some ae_int))) (fun _ _ _ _ _ => ae_bl))))) (ao_ex (ae_b1 ok_len or_len z_len PySem.boot_len (ao_pl 1)))) (al_one (as_raise rfl rfl rfl X_BadRow (hr.mono (by decide : 2 ≤ 2)) tk (aa_cons (ao_ex ae_str) (aa_cons (ao_ex (ae_var 1)) aa_nil)))) al_nil)
      (al_cons (as_fld 0 rfl cc_Plan na_Plan_rows (ae_t1 ok_tuple call_tuple_of z_tuple boot_tuple (ao_ex (ae_b1 ok_sortD (cr_sortD hr.units) z_sorted b_sorted (ao_ex (ae_t1 ok_list (or_list rfl) z_list boot_list (ao_pl 1)))))))
      (al_one (as_fld 0 rfl cc_Plan na_Plan__told (ae_dcT [("row", 2)] hr S.nd (ai_any rfl (ae_fz (ae_fld rfl cc_Plan na_Plan_rows (ao_pl 0)))) (fun _ _ _ _ _ => (ag_name 2 S.nd)) (fun _ _ _ _ _ => apt_nil) (fun _ _ _ _ _ => (ae_sl rfl (ao_pl 2) ap_none (ap_some ae_int))) (fun _ _ _ _ _ => (ae_sl rfl (ao_pl 2) (ap_some ae_int) ap_none))))))))⟩
abbrev s__law_made : Stmt := top 24
theorem sc__law_made : FnScope ["rows", "error", "found"] ["rows"] (defScope s__law_made) := ⟨rfl, rfl, rfl, by decide +kernel, rfl, by decide +kernel, by decide +kernel⟩
set_option maxHeartbeats 2000000 in
theorem ok__law_made {f : Addr} {fd : FuncData} (F : Fun Γ.K "_law_made" "_law_made" s__law_made f fd)
    (xf_BadRow : XfC Γ.K (Γ.cls 1))
    (no_BadRow_what : PySem.W.findIn Γ.K (.ref (Γ.cls 1)) "what" = some none)
    (no_BadRow_row : PySem.W.findIn Γ.K (.ref (Γ.cls 1)) "row" = some none)
    (eP_BadRow : PySem.W.exmOne Γ.K (.ref (Γ.cls 1)) (.ref (Γ.cls 1)) = some true)
    (gm_BadRow : mg "BadRow" = some (.ref (Γ.cls 1)))
    (N_Plan : ClN Γ mg base 3 "Plan" 2 1 (d_Plan___init__)) :
    FnOk Γ.prog Γ.w Γ.K mg base (L2.CX Γ.prog Γ.w) (4 + 1) f fd ["rows"] (spD Γ 1 (d__law_made)) := by
  have S := sc__law_made
  refine fn_def (pb := [true]) (m := 3) F S rfl rfl fun cdv A outer s H E hr tk hp => ?_
  exact ⟨_, (al_cons (as_tryF (i := 1) (j := 2) (c := 1) (its := [.c (.str "row"), .f "what", .f "row"]) rfl rfl S.nd rfl rfl rfl ⟨rfl, by decide, Or.inl gm_BadRow⟩ tk rfl rfl rfl (by decide) eP_BadRow rfl (fun W' pn xe tk => (al_one (as_set 2 S.nd (ae_lst (aa_cons (ao_ex ae_str) (aa_cons (ao_fz (ae_new rfl rfl rfl N_Plan (hr.mono (by decide : 4 ≤ 4)) tk (aa_cons (ao_pl 0) aa_nil))) aa_nil)))))) (fun a oe cls d pn hz hf => ps_set (i := 2) S.nd rfl (Or.inl rfl) (pe_lst (pa_cons pe_str (pa_cons (pe_xf xf_BadRow no_BadRow_what hz hf (pe_var (i := 1) rfl (Or.inl rfl) (by decide) (by decide))) (pa_cons (pe_xf xf_BadRow no_BadRow_row hz hf (pe_var (i := 1) rfl (Or.inl rfl) (by decide) (by decide))) pa_nil))))))
      (al_one (as_ret (ae_move 2))))⟩
abbrev s__law_bent : Stmt := top 25
theorem sc__law_bent : FnScope ["pen", "rows", "odd", "row", "way", "at", "spot"] ["pen", "rows"] (defScope s__law_bent) := ⟨rfl, rfl, rfl, by decide +kernel, rfl, by decide +kernel, by decide +kernel⟩
set_option maxHeartbeats 2000000 in
theorem ok__law_bent {f : Addr} {fd : FuncData} (F : Fun Γ.K "_law_bent" "_law_bent" s__law_bent f fd)
    (C__law_draw : Cl Γ mg base 1 "_law_draw" 2 [] (d__law_draw))
    (C__law_pick : Cl Γ mg base 2 "_law_pick" 2 [] (d__law_pick))
    (z_len : mg "len" = none)
    (z_list : mg "list" = none) :
    FnOk Γ.prog Γ.w Γ.K mg base (L2.CX Γ.prog Γ.w) (2 + 1) f fd ["pen", "rows"] (spD Γ 2 (d__law_bent)) := by
  have S := sc__law_bent
  refine fn_def (pb := [true, true]) (m := 7) F S rfl rfl fun cdv A outer s H E hr tk hp => ?_
  exact ⟨_, (al_cons (as_par 5 6 S.nd (ae_call rfl rfl rfl C__law_draw (hr.mono (by decide : 1 ≤ 2)) tk (aa_cons (ao_pl 0) (aa_cons (ao_ex (ae_bin ok_add or_add (ao_ex (ae_b1 ok_len or_len z_len PySem.boot_len (ao_pl 1))) (ao_ex ae_int))) aa_nil))) (ae_call rfl rfl rfl C__law_draw (hr.mono (by decide : 1 ≤ 2)) tk (aa_cons (ao_pl 0) (aa_cons (ao_ex ae_int) aa_nil))))
      (al_cons (as_set 2 S.nd (ae_call rfl rfl rfl C__law_pick (hr.mono (by decide : 2 ≤ 2)) tk (aa_cons (ao_pl 0) (aa_cons (ao_ex (ae_ifE (at_cmp ok_in (or_in (room65 hr)) (ao_pl 6) (ao_ex (ae_lst (aa_cons (ao_ex ae_int) (aa_cons (ao_ex ae_int) aa_nil))))) (ae_lst (aa_cons (ao_fz (ae_un ok_neg un_neg (ao_ex ae_int))) (aa_cons (ao_ex ae_non) (aa_cons (ao_ex ae_bl) (aa_cons (ao_ex ae_str) (aa_cons (ao_fz (ae_bin ok_pow op_pow (ao_ex ae_int) (ao_ex ae_int))) (aa_cons (ao_fz (ae_bin ok_sub op_sub (ao_ex (ae_bin ok_pow op_pow (ao_ex ae_int) (ao_ex ae_int))) (ao_ex ae_int))) aa_nil))))))) (ae_lst (aa_cons (ao_ex ae_str) (aa_cons (ao_ex ae_str) (aa_cons (ao_ex ae_str) (aa_cons (ao_ex ae_str) (aa_cons (ao_fz (ae_bin ok_mulS op_mulS (ao_ex ae_str) (ao_ex ae_int))) (aa_cons (ao_ex ae_non) (aa_cons (ao_ex ae_int) aa_nil)))))))))) aa_nil))))
      (al_cons (as_set 3 S.nd (ae_tup (aa_cons (ao_ex ae_str) (aa_cons (ao_ex ae_int) (aa_cons (ao_ex ae_str) (aa_cons (ao_ex ae_int) aa_nil))))))
      (al_cons (as_set 3 S.nd (ae_bin ok_add or_add (ao_ex (ae_bin ok_add or_add (ao_ex (ae_sl rfl (ao_pl 3) ap_none (ap_some (ae_var 6)))) (ao_ex (ae_tup (aa_cons (ao_ex (ae_var 2)) aa_nil))))) (ao_ex (ae_sl rfl (ao_pl 3) (ap_some (ae_bin ok_add or_add (ao_pl 6) (ao_ex ae_int))) ap_none))))
      (al_cons (as_set 4 S.nd (ae_call rfl rfl rfl C__law_draw (hr.mono (by decide : 1 ≤ 2)) tk (aa_cons (ao_pl 0) (aa_cons (ao_ex ae_int) aa_nil))))
      (al_cons (as_if (at_w (aw_and (at_cmp ok_eq (or_eq hr.units) (ao_pl 4) (ao_ex ae_int)) (aw_and1 (at_cmp ok_neE (or_neE hr.units0) (ao_pl 1) (ao_ex (ae_lst aa_nil)))))) (al_one (as_set 3 S.nd (ae_bin ok_add or_add (ao_ex (ae_sl rfl (ao_ex (ae_call rfl rfl rfl C__law_pick (hr.mono (by decide : 2 ≤ 2)) tk (aa_cons (ao_pl 0) (aa_cons (ao_pl 1) aa_nil)))) ap_none (ap_some ae_int))) (ao_ex (ae_tup (aa_cons (ao_ex ae_str) (aa_cons (ao_ex ae_int) aa_nil))))))) al_nil)
      (al_cons (as_if (at_cmp ok_eq (or_eq hr.units) (ao_pl 4) (ao_ex ae_int)) (al_one (as_set 3 S.nd (ae_call rfl rfl rfl C__law_pick (hr.mono (by decide : 2 ≤ 2)) tk (aa_cons (ao_pl 0) (aa_cons (ao_ex (ae_lst (aa_cons (ao_fz (ae_t1 ok_list (or_list rfl) z_list boot_list (ao_pl 3))) (aa_cons (ao_fz (ae_sl rfl (ao_pl 3) ap_none (ap_some ae_int))) (aa_cons (ao_fz (ae_bin ok_add or_add (ao_pl 3) (ao_ex (ae_tup (aa_cons (ao_ex ae_int) aa_nil))))) (aa_cons (ao_ex ae_non) (aa_cons (ao_ex ae_str) (aa_cons (ao_fz (ae_tup aa_nil)) aa_nil)))))))) aa_nil))))) al_nil)
      (al_cons (as_if (at_cmp ok_eq (or_eq hr.units) (ao_pl 4) (ao_ex ae_int)) (al_one (as_ret (ae_call rfl rfl rfl C__law_pick (hr.mono (by decide : 2 ≤ 2)) tk (aa_cons (ao_pl 0) (aa_cons (ao_ex (ae_lst (aa_cons (ao_ex ae_non) (aa_cons (ao_ex ae_int) (aa_cons (ao_ex ae_str) (aa_cons (ao_fz ae_newD) (aa_cons (ao_ex ae_bl) aa_nil))))))) aa_nil))))) al_nil)
      (al_one (as_ret (ae_bin ok_add or_add (ao_ex (ae_bin ok_add or_add (ao_ex (ae_sl rfl (ao_pl 1) ap_none (ap_some (ae_var 5)))) (ao_ex (ae_lst (aa_cons (ao_ex (ae_var 3)) aa_nil))))) (ao_ex (ae_sl rfl (ao_pl 1) (ap_some (ae_var 5)) ap_none)))))))))))))⟩
abbrev s_Plan___eq__ : Stmt := mtop 11 1
theorem sc_Plan___eq__ : FnScope ["self", "other"] ["self", "other"] (defScope s_Plan___eq__) := ⟨rfl, rfl, rfl, by decide +kernel, rfl, by decide +kernel, by decide +kernel⟩
set_option maxHeartbeats 2000000 in
theorem ok_Plan___eq__ {f : Addr} {fd : FuncData} (F : Fun Γ.K "__eq__" "Plan.__eq__" s_Plan___eq__ f fd)
    (I_Plan : ClI Γ mg "Plan" 2)
    (cc_Plan : Cls Γ.K (Γ.cls 2))
    (na_Plan_rows : NoAttr Γ.K (Γ.cls 2) "rows")
    (z_isinstance : mg "isinstance" = none) :
    FnOk Γ.prog Γ.w Γ.K mg base (L2.CX Γ.prog Γ.w) (0 + 1) f fd ["self", "other"] (spD Γ 2 (d_Plan___eq__)) := by
  have S := sc_Plan___eq__
  refine fn_def (pb := [true, true]) (m := 2) F S rfl rfl fun cdv A outer s H E hr tk hp => ?_
  exact ⟨_, (al_one (as_ret (ae_and2 (ae_isC rfl z_isinstance I_Plan (ao_pl 1)) (ae_one (ae_cmp ok_eq (or_eq hr.units) (ao_ex (ae_fld rfl cc_Plan na_Plan_rows (ao_pl 0))) (ao_ex (ae_fld rfl cc_Plan na_Plan_rows (ao_pl 1))))))))⟩
abbrev s_Plan_many_notes : Stmt := mtop 11 4
theorem sc_Plan_many_notes : FnScope ["self", "row"] ["self"] (defScope s_Plan_many_notes) := ⟨rfl, rfl, rfl, by decide +kernel, rfl, by decide +kernel, by decide +kernel⟩
set_option maxHeartbeats 2000000 in
theorem ok_Plan_many_notes {f : Addr} {fd : FuncData} (F : Fun Γ.K "many_notes" "Plan.many_notes" s_Plan_many_notes f fd)
    (cc_Plan : Cls Γ.K (Γ.cls 2))
    (na_Plan_rows : NoAttr Γ.K (Γ.cls 2) "rows")
    (z_max : mg "max" = none) :
    FnOk Γ.prog Γ.w Γ.K mg base (L2.CX Γ.prog Γ.w) (0 + 1) f fd ["self"] (spD Γ 1 (d_Plan_many_notes)) := by
  have S := sc_Plan_many_notes
  refine fn_def (pb := [true]) (m := 2) F S rfl rfl fun cdv A outer s H E hr tk hp => ?_
  exact ⟨_, (al_one (as_ret (ae_bin ok_add or_add (ao_ex ae_int) (ao_ex (ae_b1 ok_maxL (cr_max rfl) z_max b_max (ao_ex (ae_bin ok_add or_add (ao_ex (ae_lst (aa_cons (ao_ex ae_int) aa_nil))) (ao_ex (ae_lc [("row", 1)] S.nd (ai_any rfl (ae_fz (ae_fld rfl cc_Plan na_Plan_rows (ao_pl 0)))) (fun _ _ _ _ _ => (ag_name 1 S.nd)) (fun _ _ _ _ _ => apt_nil) (fun _ _ _ _ _ => (ae_b2 ok_max2 (call_max2 rfl) z_max b_max (ao_ex (ae_ix hr rfl (ao_pl 1) (ao_ex ae_int))) (ao_ex (ae_ix hr rfl (ao_pl 1) (ao_ex ae_int))))))))))))))⟩
abbrev s_Plan___len__ : Stmt := mtop 11 2
theorem sc_Plan___len__ : FnScope ["self"] ["self"] (defScope s_Plan___len__) := ⟨rfl, rfl, rfl, by decide +kernel, rfl, by decide +kernel, by decide +kernel⟩
set_option maxHeartbeats 2000000 in
theorem ok_Plan___len__ {f : Addr} {fd : FuncData} (F : Fun Γ.K "__len__" "Plan.__len__" s_Plan___len__ f fd)
    (cc_Plan : Cls Γ.K (Γ.cls 2))
    (na_Plan_rows : NoAttr Γ.K (Γ.cls 2) "rows")
    (z_len : mg "len" = none) :
    FnOk Γ.prog Γ.w Γ.K mg base (L2.CX Γ.prog Γ.w) (0 + 1) f fd ["self"] (spD Γ 1 (d_Plan___len__)) := by
  have S := sc_Plan___len__
  refine fn_def (pb := [true]) (m := 1) F S rfl rfl fun cdv A outer s H E hr tk hp => ?_
  exact ⟨_, (al_one (as_ret (ae_b1 ok_len or_len z_len PySem.boot_len (ao_ex (ae_fld rfl cc_Plan na_Plan_rows (ao_pl 0))))))⟩
abbrev s_Plan_row_at : Stmt := mtop 11 3
theorem sc_Plan_row_at : FnScope ["self", "place", "note"] ["self", "place", "note"] (defScope s_Plan_row_at) := ⟨rfl, rfl, rfl, by decide +kernel, rfl, by decide +kernel, by decide +kernel⟩
set_option maxHeartbeats 2000000 in
theorem ok_Plan_row_at {f : Addr} {fd : FuncData} (F : Fun Γ.K "row_at" "Plan.row_at" s_Plan_row_at f fd)
    (cc_Plan : Cls Γ.K (Γ.cls 2))
    (na_Plan__told : NoAttr Γ.K (Γ.cls 2) "_told")
    (C_is_name : Cl Γ mg base 1 "is_name" 1 [] (d_is_name))
    (C_is_whole_0 : Cl Γ mg base 1 "is_whole" 3 [] (d_is_whole))
    (C_is_whole_1 : Cl Γ mg base 1 "is_whole" 3 [.non] (d_is_whole)) :
    FnOk Γ.prog Γ.w Γ.K mg base (L2.CX Γ.prog Γ.w) (1 + 1) f fd ["self", "place", "note"] (spD Γ 3 (d_Plan_row_at)) := by
  have S := sc_Plan_row_at
  refine fn_def (pb := [true, true, true]) (m := 3) F S rfl rfl fun cdv A outer s H E hr tk hp => ?_
  exact ⟨_, (al_cons (as_if (at_w (aw_or (at_not (at_val (ae_call rfl rfl rfl C_is_name (hr.mono (by decide : 1 ≤ 1)) tk (aa_cons (ao_pl 1) aa_nil)))) (aw_or1 (at_not (at_val (ae_call rfl rfl rfl C_is_whole_1 (hr.mono (by decide : 1 ≤ 1)) tk (aa_cons (ao_pl 2) (aa_cons (ao_ex ae_int) aa_nil)))))))) (al_one (as_ret ae_non)) al_nil)
      (al_one (as_ret (ae_get1 hr (ae_fld rfl cc_Plan na_Plan__told (ao_pl 0)) (ae_fz (ae_tup (aa_cons (ao_ex (ae_var 1)) (aa_cons (ao_ex (ae_var 2)) aa_nil))))))))⟩
abbrev s_law : Stmt := top 26
theorem sc_law : FnScope ["script", "pen", "lap", "turn", "rows", "told", "place", "names", "plan", "key", "note", "bent", "due", "is_there", "row"] ["script"] (defScope s_law) := ⟨rfl, rfl, rfl, by decide +kernel, rfl, by decide +kernel, by decide +kernel⟩
set_option maxHeartbeats 2000000 in
theorem ok_law {f : Addr} {fd : FuncData} (F : Fun Γ.K "law" "law" s_law f fd)
    (cc_Plan : Cls Γ.K (Γ.cls 2))
    (na_Plan_rows : NoAttr Γ.K (Γ.cls 2) "rows")
    (L_Plan : ClL Γ mg base 1 2 (d_Plan___len__))
    (E_Plan : ClE Γ mg base 1 2 (d_Plan___eq__))
    (M_Plan_many_notes : ClM Γ mg base 1 2 "many_notes" 0 (d_Plan_many_notes))
    (M_Plan_row_at : ClM Γ mg base 2 2 "row_at" 2 (d_Plan_row_at))
    (N_Plan : ClN Γ mg base 3 "Plan" 2 1 (d_Plan___init__))
    (C__law_pen : Cl Γ mg base 1 "_law_pen" 1 [] (d__law_pen))
    (C__law_names : Cl Γ mg base 3 "_law_names" 2 [] (d__law_names))
    (C__law_draw : Cl Γ mg base 1 "_law_draw" 2 [] (d__law_draw))
    (C__law_pick : Cl Γ mg base 2 "_law_pick" 2 [] (d__law_pick))
    (C__law_shuffled : Cl Γ mg base 2 "_law_shuffled" 2 [] (d__law_shuffled))
    (C__law_plan_rows : Cl Γ mg base 1 "_law_plan_rows" 1 [] (d__law_plan_rows))
    (C__law_made : Cl Γ mg base 5 "_law_made" 1 [] (d__law_made))
    (C__law_alike : Cl Γ mg base 8 "_law_alike" 2 [] (d__law_alike 8))
    (C__law_is_number : Cl Γ mg base 1 "_law_is_number" 1 [] (d__law_is_number))
    (C__law_bent : Cl Γ mg base 3 "_law_bent" 2 [] (d__law_bent))
    (C__law_are_rows : Cl Γ mg base 2 "_law_are_rows" 1 [] (d__law_are_rows))
    (z_range : mg "range" = none)
    (z_list : mg "list" = none)
    (z_tuple : mg "tuple" = none)
    (z_sorted : mg "sorted" = none)
    (z_len : mg "len" = none)
    (z_max : mg "max" = none)
    (z_isinstance : mg "isinstance" = none)
    (z_str : mg "str" = none) :
    FnOk Γ.prog Γ.w Γ.K mg base (L2.CX Γ.prog Γ.w) (8 + 1) f fd ["script"] (spD Γ 1 (d_law)) := by
  have S := sc_law
  refine fn_def (pb := [true]) (m := 15) F S rfl rfl fun cdv A outer s H E hr tk hp => ?_
  exact ⟨_, (al_cons (as_set 1 S.nd (ae_call rfl rfl rfl C__law_pen (hr.mono (by decide : 1 ≤ 8)) tk (aa_cons (ao_pl 0) aa_nil)))
      (al_cons (as_for (vs := [2]) hp (ai_rng1 z_range ae_int) (ag_name 2 S.nd) (al_cons (as_par 7 8 S.nd (ae_call rfl rfl rfl C__law_names (hr.mono (by decide : 3 ≤ 8)) tk (aa_cons (ao_pl 1) (aa_cons (ao_ex ae_int) aa_nil))) ae_newT)
      (al_cons (as_for (vs := [3]) hp (ai_rng1 z_range (ae_call rfl rfl rfl C__law_draw (hr.mono (by decide : 1 ≤ 8)) tk (aa_cons (ao_pl 1) (aa_cons (ao_ex ae_int) aa_nil)))) (ag_name 3 S.nd) (al_cons (as_set 9 S.nd (ae_tup (aa_cons (ao_fz (ae_call rfl rfl rfl C__law_pick (hr.mono (by decide : 2 ≤ 8)) tk (aa_cons (ao_pl 1) (aa_cons (ao_pl 7) aa_nil)))) (aa_cons (ao_fz (ae_call rfl rfl rfl C__law_pick (hr.mono (by decide : 2 ≤ 8)) tk (aa_cons (ao_pl 1) (aa_cons (ao_ex (ae_lst (aa_cons (ao_ex ae_int) (aa_cons (ao_ex ae_int) (aa_cons (ao_ex ae_int) (aa_cons (ao_fz (ae_bin ok_pow op_pow (ao_ex ae_int) (ao_ex ae_int))) (aa_cons (ao_fz (ae_call rfl rfl rfl C__law_draw (hr.mono (by decide : 1 ≤ 8)) tk (aa_cons (ao_pl 1) (aa_cons (ao_ex ae_int) aa_nil)))) aa_nil))))))) aa_nil)))) aa_nil))))
      (al_one (as_sub 8 hr (ae_tup (aa_cons (ao_fz (ae_call rfl rfl rfl C__law_pick (hr.mono (by decide : 2 ≤ 8)) tk (aa_cons (ao_pl 1) (aa_cons (ao_pl 7) aa_nil)))) (aa_cons (ao_fz (ae_call rfl rfl rfl C__law_pick (hr.mono (by decide : 2 ≤ 8)) tk (aa_cons (ao_pl 1) (aa_cons (ao_ex (ae_lst (aa_cons (ao_ex ae_int) (aa_cons (ao_ex ae_int) (aa_cons (ao_ex ae_int) (aa_cons (ao_fz (ae_bin ok_mul or_mul (ao_ex ae_int) (ao_ex (ae_bin ok_pow op_pow (ao_ex ae_int) (ao_ex ae_int))))) aa_nil)))))) aa_nil)))) aa_nil))) (ae_var 9)))))
      (al_cons (as_set 4 S.nd (ae_call rfl rfl rfl C__law_shuffled (hr.mono (by decide : 2 ≤ 8)) tk (aa_cons (ao_pl 1) (aa_cons (ao_ex (ae_call rfl rfl rfl C__law_plan_rows (hr.mono (by decide : 1 ≤ 8)) tk (aa_cons (ao_pl 8) aa_nil))) aa_nil))))
      (al_cons (as_set 5 S.nd (ae_call rfl rfl rfl C__law_made (hr.mono (by decide : 5 ≤ 8)) tk (aa_cons (ao_ex (ae_call rfl rfl rfl C__law_pick (hr.mono (by decide : 2 ≤ 8)) tk (aa_cons (ao_pl 1) (aa_cons (ao_ex (ae_lst (aa_cons (ao_fz (ae_t1 ok_list (or_list rfl) z_list boot_list (ao_pl 4))) (aa_cons (ao_fz (ae_t1 ok_tuple call_tuple_of z_tuple boot_tuple (ao_pl 4))) aa_nil)))) aa_nil)))) aa_nil)))
      (al_cons (as_if (at_w (aw_or (at_cmp ok_ne (or_ne hr.units) (ao_ex (ae_ix hr rfl (ao_pl 5) (ao_ex ae_int))) (ao_ex ae_str)) (aw_or (at_not (at_val (ae_call rfl rfl rfl C__law_alike (hr.mono (by decide : 8 ≤ 8)) tk (aa_cons (ao_ex (ae_fld rfl cc_Plan na_Plan_rows (ao_ex (ae_ix hr rfl (ao_pl 5) (ao_ex ae_int))))) (aa_cons (ao_ex (ae_t1 ok_tuple call_tuple_of z_tuple boot_tuple (ao_ex (ae_b1 ok_sortD (cr_sortD hr.units) z_sorted b_sorted (ao_pl 4))))) aa_nil))))) (aw_or (at_cmp ok_ne (or_ne hr.units) (ao_ex (ae_b1 ok_lenI (cr_lenI rfl rfl rfl L_Plan (hr.mono (by decide : 2 ≤ 8))) z_len PySem.boot_len (ao_ex (ae_ix hr rfl (ao_pl 5) (ao_ex ae_int))))) (ao_ex (ae_b1 ok_len or_len z_len PySem.boot_len (ao_pl 4)))) (aw_or1 (at_cmp ok_eqI (or_eqI rfl rfl rfl E_Plan (hr.mono (by decide : 1 ≤ 8))) (ao_ex (ae_ix hr rfl (ao_pl 5) (ao_ex ae_int))) (ao_fz (ae_t1 ok_tuple call_tuple_of z_tuple boot_tuple (ao_ex (ae_b1 ok_sortD (cr_sortD hr.units) z_sorted b_sorted (ao_pl 4))))))))))) (al_one (as_ret ae_bl)) al_nil)
      (al_cons (as_if (at_not (at_val (ae_call rfl rfl rfl C__law_alike (hr.mono (by decide : 8 ≤ 8)) tk (aa_cons (ao_ex (ae_mth0 rfl rfl rfl M_Plan_many_notes (hr.mono (by decide : 1 ≤ 8)) (ae_ix hr rfl (ao_pl 5) (ao_ex ae_int)))) (aa_cons (ao_ex (ae_bin ok_add or_add (ao_ex ae_int) (ao_ex (ae_b1 ok_maxL (cr_max rfl) z_max b_max (ao_ex (ae_bin ok_add or_add (ao_ex (ae_lst (aa_cons (ao_ex ae_int) aa_nil))) (ao_ex (ae_lc [("row", 14)] S.nd (ai_any rfl (ae_var 4)) (fun _ _ _ _ _ => (ag_name 14 S.nd)) (fun _ _ _ _ _ => apt_nil) (fun _ _ _ _ _ => (ae_b2 ok_max2 (call_max2 rfl) z_max b_max (ao_ex (ae_ix hr rfl (ao_pl 14) (ao_ex ae_int))) (ao_ex (ae_ix hr rfl (ao_pl 14) (ao_ex ae_int))))))))))))) aa_nil))))) (al_one (as_ret ae_bl)) al_nil)
      (al_cons (as_for (vs := [6]) hp (ai_any rfl (ae_fz (ae_bin ok_add or_add (ao_pl 7) (ao_ex (ae_lst (aa_cons (ao_ex ae_str) (aa_cons (ao_ex ae_non) (aa_cons (ao_ex ae_int) aa_nil)))))))) (ag_name 6 S.nd) (al_one (as_for (vs := [10]) hp (ai_any rfl (ae_fz (ae_lst (aa_cons (ao_ex ae_int) (aa_cons (ao_ex ae_int) (aa_cons (ao_ex ae_bl) (aa_cons (ao_ex ae_non) (aa_cons (ao_fz (ae_bin ok_pow op_pow (ao_ex ae_int) (ao_ex ae_int))) (aa_cons (ao_ex ae_str) (aa_cons (ao_fz (ae_un ok_neg un_neg (ao_ex ae_int))) aa_nil)))))))))) (ag_name 10 S.nd) (al_cons (as_set 13 S.nd (ae_and2 (ae_call rfl rfl rfl C__law_is_number (hr.mono (by decide : 1 ≤ 8)) tk (aa_cons (ao_pl 10) aa_nil)) (ae_and2 (ae_isi rfl z_isinstance (ao_pl 6) z_str boot_str) (ae_one (ae_cmp ok_in (or_in (room65 hr)) (ao_ex (ae_tup (aa_cons (ao_ex (ae_var 6)) (aa_cons (ao_ex (ae_var 10)) aa_nil)))) (ao_pl 8))))))
      (al_one (as_if (at_not (at_val (ae_call rfl rfl rfl C__law_alike (hr.mono (by decide : 8 ≤ 8)) tk (aa_cons (ao_ex (ae_mth rfl rfl rfl M_Plan_row_at (hr.mono (by decide : 2 ≤ 8)) (ae_ix hr rfl (ao_pl 5) (ao_ex ae_int)) (aa_cons (ao_pl 6) (aa_cons (ao_pl 10) aa_nil)))) (aa_cons (ao_ex (ae_ifE (at_tru rfl (ao_pl 13)) (ae_ix hr rfl (ao_pl 8) (ao_ex (ae_tup (aa_cons (ao_ex (ae_var 6)) (aa_cons (ao_ex (ae_var 10)) aa_nil))))) ae_non)) aa_nil))))) (al_one (as_ret ae_bl)) al_nil))))))
      (al_cons (as_if (at_w (aw_and (at_cmp ok_neE (or_neE hr.units0) (ao_pl 4) (ao_ex (ae_lst aa_nil))) (aw_and1 (at_w (aw_or (at_cmp ok_eqI (or_eqI rfl rfl rfl E_Plan (hr.mono (by decide : 1 ≤ 8))) (ao_ex (ae_ix hr rfl (ao_pl 5) (ao_ex ae_int))) (ao_fz (ae_new rfl rfl rfl N_Plan (hr.mono (by decide : 4 ≤ 8)) tk (aa_cons (ao_ex (ae_sl rfl (ao_pl 4) (ap_some ae_int) ap_none)) aa_nil)))) (aw_or (at_not (at_cmp ok_eqI (or_eqI rfl rfl rfl E_Plan (hr.mono (by decide : 1 ≤ 8))) (ao_ex (ae_ix hr rfl (ao_pl 5) (ao_ex ae_int))) (ao_fz (ae_new rfl rfl rfl N_Plan (hr.mono (by decide : 4 ≤ 8)) tk (aa_cons (ao_ex (ae_rev rfl (ao_pl 4))) aa_nil))))) (aw_or1 (at_cmp ok_eqI (or_eqI rfl rfl rfl E_Plan (hr.mono (by decide : 1 ≤ 8))) (ao_ex (ae_ix hr rfl (ao_pl 5) (ao_ex ae_int))) (ao_fz (ae_new rfl rfl rfl N_Plan (hr.mono (by decide : 4 ≤ 8)) tk (aa_cons (ao_ex (ae_bin ok_add or_add (ao_ex (ae_lst (aa_cons (ao_fz (ae_bin ok_add or_add (ao_ex (ae_sl rfl (ao_ex (ae_ix hr rfl (ao_pl 4) (ao_ex ae_int))) ap_none (ap_some ae_int))) (ao_ex (ae_tup (aa_cons (ao_fz (ae_bin ok_add or_add (ao_ex (ae_ix hr rfl (ao_ex (ae_ix hr rfl (ao_pl 4) (ao_ex ae_int))) (ao_ex ae_int))) (ao_ex ae_int))) aa_nil))))) aa_nil))) (ao_ex (ae_sl rfl (ao_pl 4) (ap_some ae_int) ap_none)))) aa_nil))))))))))) (al_one (as_ret ae_bl)) al_nil)
      (al_one (as_for (vs := [3]) hp (ai_rng1 z_range ae_int) (ag_name 3 S.nd) (al_cons (as_set 11 S.nd (ae_call rfl rfl rfl C__law_bent (hr.mono (by decide : 3 ≤ 8)) tk (aa_cons (ao_pl 1) (aa_cons (ao_pl 4) aa_nil))))
      (al_cons (as_set 12 S.nd (ae_ifE (at_val (ae_call rfl rfl rfl C__law_are_rows (hr.mono (by decide : 2 ≤ 8)) tk (aa_cons (ao_pl 11) aa_nil))) (ae_lst (aa_cons (ao_ex ae_str) aa_nil)) (ae_lst (aa_cons (ao_ex ae_str) (aa_cons (ao_ex ae_str) (aa_cons (ao_ex (ae_var 11)) aa_nil))))))
      (al_one (as_if (at_not (at_val (ae_call rfl rfl rfl C__law_alike (hr.mono (by decide : 8 ≤ 8)) tk (aa_cons (ao_ex (ae_sl rfl (ao_ex (ae_call rfl rfl rfl C__law_made (hr.mono (by decide : 5 ≤ 8)) tk (aa_cons (ao_pl 11) aa_nil))) ap_none (ap_some (ae_b1 ok_len or_len z_len PySem.boot_len (ao_pl 12))))) (aa_cons (ao_pl 12) aa_nil))))) (al_one (as_ret ae_bl)) al_nil)))))))))))))))
      (al_one (as_ret (ae_and2 (ae_cmp ok_eqI (or_eqI rfl rfl rfl E_Plan (hr.mono (by decide : 1 ≤ 8))) (ao_fz (ae_new rfl rfl rfl N_Plan (hr.mono (by decide : 4 ≤ 8)) tk (aa_cons (ao_ex (ae_tup aa_nil)) aa_nil))) (ao_fz (ae_new rfl rfl rfl N_Plan (hr.mono (by decide : 4 ≤ 8)) tk (aa_cons (ao_ex (ae_lst aa_nil)) aa_nil)))) (ae_one (ae_cmp ok_eq (or_eq hr.units) (ao_ex (ae_mth0 rfl rfl rfl M_Plan_many_notes (hr.mono (by decide : 1 ≤ 8)) (ae_fz (ae_new rfl rfl rfl N_Plan (hr.mono (by decide : 4 ≤ 8)) tk (aa_cons (ao_ex (ae_tup aa_nil)) aa_nil))))) (ao_ex ae_int))))))))⟩
set_option maxHeartbeats 8000000 in
theorem all_mk {l : PySem.W.OpenLaw} {w : World} {K : PySem.W.Frag} {h : Heap} {mg : Str → Option Value} {fa : Addr} {cls : Nat → Addr} (X : K.In h) (G : h.Ns mainGlobals mg) (hfa : mg "law" = some (.ref fa))
    (a_BadRow : PySem.W.nsIn K mainGlobals "BadRow" = some (some (.ref (cls 1))))
    {nm_BadRow : _} {qq_BadRow : _} {N_BadRow : Addr} {bs_BadRow bm_BadRow : List Value} {sn_BadRow : List Str} {sub_BadRow : List Value} {ab_BadRow : Bool} {col_BadRow : Option Bool} {dd_BadRow : Option Addr} {m0_BadRow m1_BadRow m2_BadRow m3_BadRow m5_BadRow : Option Value}
    (xL_BadRow : K.lookup (cls 1) = some (excClassObj nm_BadRow qq_BadRow (cls 1) N_BadRow bs_BadRow bm_BadRow true sn_BadRow sub_BadRow ab_BadRow col_BadRow dd_BadRow m0_BadRow m1_BadRow m2_BadRow m3_BadRow m5_BadRow "ValueError.__new__"))
    (rf_BadRow : PySem.HandSPX.refsVE bm_BadRow = true)
    (sa_BadRow : PySem.W.findIn K (.ref (cls 1)) "__setattr__" = some (some (.builtin "object.__setattr__")))
    (ga_BadRow : PySem.W.findIn K (.ref (cls 1)) "__getattribute__" = some (some (.builtin "BaseException.__getattribute__")))
    (gg_BadRow : PySem.W.findIn K (.ref (cls 1)) "__getattr__" = some none)
    (kp_BadRow : PySem.W.keepIn K (.ref (cls 1)) = true)
    (ex_BadRow : PySem.W.subIn K (.ref (cls 1)) (.type "BaseException") = some true)
    (tC_BadRow : PySem.W.typeIn K (.ref (cls 1)) = some (.type "type"))
    (hd_BadRow : PySem.W.hasDictIn K (cls 1) = true)
    (iC_BadRow : PySem.W.isClsIn K (cls 1) = true)
    (sC_BadRow : PySem.W.subIn K (.ref (cls 1)) (.ref (cls 1)) = some true)
    (no_BadRow_what : PySem.W.findIn K (.ref (cls 1)) "what" = some none)
    (no_BadRow_row : PySem.W.findIn K (.ref (cls 1)) "row" = some none)
    (a_Plan : PySem.W.nsIn K mainGlobals "Plan" = some (some (.ref (cls 2))))
    (pg_Plan : PySem.W.plainGet K (cls 2) Str.empty = true)
    (hd_Plan : PySem.W.hasDictIn K (cls 2) = true)
    (po_Plan : PySem.W.plainOver K (cls 2) = true)
    (sa_Plan : PySem.W.findIn K (.ref (cls 2)) "__setattr__" = some (some (.builtin "object.__setattr__")))
    (mk_Plan : PySem.W.makesIn K (cls 2) = true)
    (kp_Plan : PySem.W.keepIn K (.ref (cls 2)) = true)
    (na_Plan_rows : PySem.W.findIn K (.ref (cls 2)) "rows" = some none)
    (na_Plan__told : PySem.W.findIn K (.ref (cls 2)) "_told" = some none)
    (Ia_Plan : PySem.W.findIn K (.ref (cls 2)) "__class__" = some (some (.builtin "object.__class__")))
    (In_Plan : PySem.W.specialIn K (.builtin "object.__class__") "__get__" = some (some (.builtin "getset_descriptor.__get__")))
    (It_Plan : PySem.W.takesIn K (.builtin "object.__class__") = some true)
    (Io_Plan : PySem.W.mroIn K (cls 2) (.type "object") = some true)
    (iC_Plan : PySem.W.isClsIn K (cls 2) = true)
    (tC_Plan : PySem.W.typeIn K (.ref (cls 2)) = some (.type "type"))
    (Iz_Plan_NoneType : PySem.W.subIn K (.type "NoneType") (.ref (cls 2)) = some false)
    (Iz_Plan_bool : PySem.W.subIn K (.type "bool") (.ref (cls 2)) = some false)
    (Iz_Plan_int : PySem.W.subIn K (.type "int") (.ref (cls 2)) = some false)
    (Iz_Plan_str : PySem.W.subIn K (.type "str") (.ref (cls 2)) = some false)
    (Iz_Plan_tuple : PySem.W.subIn K (.type "tuple") (.ref (cls 2)) = some false)
    (Iz_Plan_list : PySem.W.subIn K (.type "list") (.ref (cls 2)) = some false)
    (Iz_Plan_dict : PySem.W.subIn K (.type "dict") (.ref (cls 2)) = some false)
    (En_Plan : PySem.W.notFirst K (cls 2) (.type "tuple") = true)
    {f_BadRow___init__ : Addr} {od_BadRow___init__ an_BadRow___init__ : Option Addr} {sl_BadRow___init__ : Array (Option Value)} {oc_BadRow___init__ kV_BadRow___init__ dc_BadRow___init__ pm_BadRow___init__ cd_BadRow___init__ ct_BadRow___init__ : Value}
    (a_BadRow___init__ : PySem.W.findIn K (.ref (cls 1)) "__init__" = some (some (.ref f_BadRow___init__)))
    (t_BadRow___init__ : PySem.W.typeIn K (.ref f_BadRow___init__) = some (.type "function"))
    (l_BadRow___init__ : K.lookup f_BadRow___init__ = some ⟨oc_BadRow___init__, od_BadRow___init__, .func (PySem.W.fnOf "__init__" "BadRow.__init__" (defArgs s_BadRow___init__) (defBody s_BadRow___init__) (defScope s_BadRow___init__) .none kV_BadRow___init__ dc_BadRow___init__ pm_BadRow___init__ an_BadRow___init__ cd_BadRow___init__ ct_BadRow___init__), sl_BadRow___init__⟩)
    (c_BadRow___init__ : PySem.W.codeIn K cd_BadRow___init__ "BadRow.__init__" = true)
    (k_BadRow___init__ : PySem.W.keepIn K (.ref f_BadRow___init__) = true)
    {f_is_name : Addr} {od_is_name an_is_name : Option Addr} {sl_is_name : Array (Option Value)} {oc_is_name kV_is_name dc_is_name pm_is_name cd_is_name ct_is_name : Value}
    (a_is_name : PySem.W.nsIn K mainGlobals "is_name" = some (some (.ref f_is_name)))
    (l_is_name : K.lookup f_is_name = some ⟨oc_is_name, od_is_name, .func (PySem.W.fnOf "is_name" "is_name" (defArgs s_is_name) (defBody s_is_name) (defScope s_is_name) .none kV_is_name dc_is_name pm_is_name an_is_name cd_is_name ct_is_name), sl_is_name⟩)
    (c_is_name : PySem.W.codeIn K cd_is_name "is_name" = true) (k_is_name : PySem.W.keepIn K (.ref f_is_name) = true)
    {f_is_whole : Addr} {od_is_whole an_is_whole : Option Addr} {sl_is_whole : Array (Option Value)} {oc_is_whole kV_is_whole dc_is_whole pm_is_whole cd_is_whole ct_is_whole : Value}
    (a_is_whole : PySem.W.nsIn K mainGlobals "is_whole" = some (some (.ref f_is_whole)))
    {T_is_whole : Addr} {dT_is_whole : Option Addr} {nT_is_whole : Nat} {sT_is_whole : Array (Option Value)} 
    (u_is_whole : K.lookup T_is_whole = some ⟨.type "tuple", dT_is_whole, .seq #[Value.none] nT_is_whole, sT_is_whole⟩)
    (l_is_whole : K.lookup f_is_whole = some ⟨oc_is_whole, od_is_whole, .func (PySem.W.fnOf "is_whole" "is_whole" (defArgs s_is_whole) (defBody s_is_whole) (defScope s_is_whole) (.ref T_is_whole) kV_is_whole dc_is_whole pm_is_whole an_is_whole cd_is_whole ct_is_whole), sl_is_whole⟩)
    (c_is_whole : PySem.W.codeIn K cd_is_whole "is_whole" = true) (k_is_whole : PySem.W.keepIn K (.ref f_is_whole) = true)
    {f_is_listed : Addr} {od_is_listed an_is_listed : Option Addr} {sl_is_listed : Array (Option Value)} {oc_is_listed kV_is_listed dc_is_listed pm_is_listed cd_is_listed ct_is_listed : Value}
    (a_is_listed : PySem.W.nsIn K mainGlobals "is_listed" = some (some (.ref f_is_listed)))
    (l_is_listed : K.lookup f_is_listed = some ⟨oc_is_listed, od_is_listed, .func (PySem.W.fnOf "is_listed" "is_listed" (defArgs s_is_listed) (defBody s_is_listed) (defScope s_is_listed) .none kV_is_listed dc_is_listed pm_is_listed an_is_listed cd_is_listed ct_is_listed), sl_is_listed⟩)
    (c_is_listed : PySem.W.codeIn K cd_is_listed "is_listed" = true) (k_is_listed : PySem.W.keepIn K (.ref f_is_listed) = true)
    {f_is_plan_row : Addr} {od_is_plan_row an_is_plan_row : Option Addr} {sl_is_plan_row : Array (Option Value)} {oc_is_plan_row kV_is_plan_row dc_is_plan_row pm_is_plan_row cd_is_plan_row ct_is_plan_row : Value}
    (a_is_plan_row : PySem.W.nsIn K mainGlobals "is_plan_row" = some (some (.ref f_is_plan_row)))
    (l_is_plan_row : K.lookup f_is_plan_row = some ⟨oc_is_plan_row, od_is_plan_row, .func (PySem.W.fnOf "is_plan_row" "is_plan_row" (defArgs s_is_plan_row) (defBody s_is_plan_row) (defScope s_is_plan_row) .none kV_is_plan_row dc_is_plan_row pm_is_plan_row an_is_plan_row cd_is_plan_row ct_is_plan_row), sl_is_plan_row⟩)
    (c_is_plan_row : PySem.W.codeIn K cd_is_plan_row "is_plan_row" = true) (k_is_plan_row : PySem.W.keepIn K (.ref f_is_plan_row) = true)
    {f__law_pen : Addr} {od__law_pen an__law_pen : Option Addr} {sl__law_pen : Array (Option Value)} {oc__law_pen kV__law_pen dc__law_pen pm__law_pen cd__law_pen ct__law_pen : Value}
    (a__law_pen : PySem.W.nsIn K mainGlobals "_law_pen" = some (some (.ref f__law_pen)))
    (l__law_pen : K.lookup f__law_pen = some ⟨oc__law_pen, od__law_pen, .func (PySem.W.fnOf "_law_pen" "_law_pen" (defArgs s__law_pen) (defBody s__law_pen) (defScope s__law_pen) .none kV__law_pen dc__law_pen pm__law_pen an__law_pen cd__law_pen ct__law_pen), sl__law_pen⟩)
    (c__law_pen : PySem.W.codeIn K cd__law_pen "_law_pen" = true) (k__law_pen : PySem.W.keepIn K (.ref f__law_pen) = true)
    {f__law_draw : Addr} {od__law_draw an__law_draw : Option Addr} {sl__law_draw : Array (Option Value)} {oc__law_draw kV__law_draw dc__law_draw pm__law_draw cd__law_draw ct__law_draw : Value}
    (a__law_draw : PySem.W.nsIn K mainGlobals "_law_draw" = some (some (.ref f__law_draw)))
    (l__law_draw : K.lookup f__law_draw = some ⟨oc__law_draw, od__law_draw, .func (PySem.W.fnOf "_law_draw" "_law_draw" (defArgs s__law_draw) (defBody s__law_draw) (defScope s__law_draw) .none kV__law_draw dc__law_draw pm__law_draw an__law_draw cd__law_draw ct__law_draw), sl__law_draw⟩)
    (c__law_draw : PySem.W.codeIn K cd__law_draw "_law_draw" = true) (k__law_draw : PySem.W.keepIn K (.ref f__law_draw) = true)
    {f__law_pick : Addr} {od__law_pick an__law_pick : Option Addr} {sl__law_pick : Array (Option Value)} {oc__law_pick kV__law_pick dc__law_pick pm__law_pick cd__law_pick ct__law_pick : Value}
    (a__law_pick : PySem.W.nsIn K mainGlobals "_law_pick" = some (some (.ref f__law_pick)))
    (l__law_pick : K.lookup f__law_pick = some ⟨oc__law_pick, od__law_pick, .func (PySem.W.fnOf "_law_pick" "_law_pick" (defArgs s__law_pick) (defBody s__law_pick) (defScope s__law_pick) .none kV__law_pick dc__law_pick pm__law_pick an__law_pick cd__law_pick ct__law_pick), sl__law_pick⟩)
    (c__law_pick : PySem.W.codeIn K cd__law_pick "_law_pick" = true) (k__law_pick : PySem.W.keepIn K (.ref f__law_pick) = true)
    {f__law_shuffled : Addr} {od__law_shuffled an__law_shuffled : Option Addr} {sl__law_shuffled : Array (Option Value)} {oc__law_shuffled kV__law_shuffled dc__law_shuffled pm__law_shuffled cd__law_shuffled ct__law_shuffled : Value}
    (a__law_shuffled : PySem.W.nsIn K mainGlobals "_law_shuffled" = some (some (.ref f__law_shuffled)))
    (l__law_shuffled : K.lookup f__law_shuffled = some ⟨oc__law_shuffled, od__law_shuffled, .func (PySem.W.fnOf "_law_shuffled" "_law_shuffled" (defArgs s__law_shuffled) (defBody s__law_shuffled) (defScope s__law_shuffled) .none kV__law_shuffled dc__law_shuffled pm__law_shuffled an__law_shuffled cd__law_shuffled ct__law_shuffled), sl__law_shuffled⟩)
    (c__law_shuffled : PySem.W.codeIn K cd__law_shuffled "_law_shuffled" = true) (k__law_shuffled : PySem.W.keepIn K (.ref f__law_shuffled) = true)
    {f__law_name : Addr} {od__law_name an__law_name : Option Addr} {sl__law_name : Array (Option Value)} {oc__law_name kV__law_name dc__law_name pm__law_name cd__law_name ct__law_name : Value}
    (a__law_name : PySem.W.nsIn K mainGlobals "_law_name" = some (some (.ref f__law_name)))
    (l__law_name : K.lookup f__law_name = some ⟨oc__law_name, od__law_name, .func (PySem.W.fnOf "_law_name" "_law_name" (defArgs s__law_name) (defBody s__law_name) (defScope s__law_name) .none kV__law_name dc__law_name pm__law_name an__law_name cd__law_name ct__law_name), sl__law_name⟩)
    (c__law_name : PySem.W.codeIn K cd__law_name "_law_name" = true) (k__law_name : PySem.W.keepIn K (.ref f__law_name) = true)
    {f__law_names : Addr} {od__law_names an__law_names : Option Addr} {sl__law_names : Array (Option Value)} {oc__law_names kV__law_names dc__law_names pm__law_names cd__law_names ct__law_names : Value}
    (a__law_names : PySem.W.nsIn K mainGlobals "_law_names" = some (some (.ref f__law_names)))
    (l__law_names : K.lookup f__law_names = some ⟨oc__law_names, od__law_names, .func (PySem.W.fnOf "_law_names" "_law_names" (defArgs s__law_names) (defBody s__law_names) (defScope s__law_names) .none kV__law_names dc__law_names pm__law_names an__law_names cd__law_names ct__law_names), sl__law_names⟩)
    (c__law_names : PySem.W.codeIn K cd__law_names "_law_names" = true) (k__law_names : PySem.W.keepIn K (.ref f__law_names) = true)
    {f__law_alike : Addr} {od__law_alike an__law_alike : Option Addr} {sl__law_alike : Array (Option Value)} {oc__law_alike kV__law_alike dc__law_alike pm__law_alike cd__law_alike ct__law_alike : Value}
    (a__law_alike : PySem.W.nsIn K mainGlobals "_law_alike" = some (some (.ref f__law_alike)))
    (l__law_alike : K.lookup f__law_alike = some ⟨oc__law_alike, od__law_alike, .func (PySem.W.fnOf "_law_alike" "_law_alike" (defArgs s__law_alike) (defBody s__law_alike) (defScope s__law_alike) .none kV__law_alike dc__law_alike pm__law_alike an__law_alike cd__law_alike ct__law_alike), sl__law_alike⟩)
    (c__law_alike : PySem.W.codeIn K cd__law_alike "_law_alike" = true) (k__law_alike : PySem.W.keepIn K (.ref f__law_alike) = true)
    {f__law_is_name : Addr} {od__law_is_name an__law_is_name : Option Addr} {sl__law_is_name : Array (Option Value)} {oc__law_is_name kV__law_is_name dc__law_is_name pm__law_is_name cd__law_is_name ct__law_is_name : Value}
    (a__law_is_name : PySem.W.nsIn K mainGlobals "_law_is_name" = some (some (.ref f__law_is_name)))
    (l__law_is_name : K.lookup f__law_is_name = some ⟨oc__law_is_name, od__law_is_name, .func (PySem.W.fnOf "_law_is_name" "_law_is_name" (defArgs s__law_is_name) (defBody s__law_is_name) (defScope s__law_is_name) .none kV__law_is_name dc__law_is_name pm__law_is_name an__law_is_name cd__law_is_name ct__law_is_name), sl__law_is_name⟩)
    (c__law_is_name : PySem.W.codeIn K cd__law_is_name "_law_is_name" = true) (k__law_is_name : PySem.W.keepIn K (.ref f__law_is_name) = true)
    {f__law_plan_rows : Addr} {od__law_plan_rows an__law_plan_rows : Option Addr} {sl__law_plan_rows : Array (Option Value)} {oc__law_plan_rows kV__law_plan_rows dc__law_plan_rows pm__law_plan_rows cd__law_plan_rows ct__law_plan_rows : Value}
    (a__law_plan_rows : PySem.W.nsIn K mainGlobals "_law_plan_rows" = some (some (.ref f__law_plan_rows)))
    (l__law_plan_rows : K.lookup f__law_plan_rows = some ⟨oc__law_plan_rows, od__law_plan_rows, .func (PySem.W.fnOf "_law_plan_rows" "_law_plan_rows" (defArgs s__law_plan_rows) (defBody s__law_plan_rows) (defScope s__law_plan_rows) .none kV__law_plan_rows dc__law_plan_rows pm__law_plan_rows an__law_plan_rows cd__law_plan_rows ct__law_plan_rows), sl__law_plan_rows⟩)
    (c__law_plan_rows : PySem.W.codeIn K cd__law_plan_rows "_law_plan_rows" = true) (k__law_plan_rows : PySem.W.keepIn K (.ref f__law_plan_rows) = true)
    {f__law_is_number : Addr} {od__law_is_number an__law_is_number : Option Addr} {sl__law_is_number : Array (Option Value)} {oc__law_is_number kV__law_is_number dc__law_is_number pm__law_is_number cd__law_is_number ct__law_is_number : Value}
    (a__law_is_number : PySem.W.nsIn K mainGlobals "_law_is_number" = some (some (.ref f__law_is_number)))
    (l__law_is_number : K.lookup f__law_is_number = some ⟨oc__law_is_number, od__law_is_number, .func (PySem.W.fnOf "_law_is_number" "_law_is_number" (defArgs s__law_is_number) (defBody s__law_is_number) (defScope s__law_is_number) .none kV__law_is_number dc__law_is_number pm__law_is_number an__law_is_number cd__law_is_number ct__law_is_number), sl__law_is_number⟩)
    (c__law_is_number : PySem.W.codeIn K cd__law_is_number "_law_is_number" = true) (k__law_is_number : PySem.W.keepIn K (.ref f__law_is_number) = true)
    {f__law_are_rows : Addr} {od__law_are_rows an__law_are_rows : Option Addr} {sl__law_are_rows : Array (Option Value)} {oc__law_are_rows kV__law_are_rows dc__law_are_rows pm__law_are_rows cd__law_are_rows ct__law_are_rows : Value}
    (a__law_are_rows : PySem.W.nsIn K mainGlobals "_law_are_rows" = some (some (.ref f__law_are_rows)))
    (l__law_are_rows : K.lookup f__law_are_rows = some ⟨oc__law_are_rows, od__law_are_rows, .func (PySem.W.fnOf "_law_are_rows" "_law_are_rows" (defArgs s__law_are_rows) (defBody s__law_are_rows) (defScope s__law_are_rows) .none kV__law_are_rows dc__law_are_rows pm__law_are_rows an__law_are_rows cd__law_are_rows ct__law_are_rows), sl__law_are_rows⟩)
    (c__law_are_rows : PySem.W.codeIn K cd__law_are_rows "_law_are_rows" = true) (k__law_are_rows : PySem.W.keepIn K (.ref f__law_are_rows) = true)
    {f_Plan___init__ : Addr} {od_Plan___init__ an_Plan___init__ : Option Addr} {sl_Plan___init__ : Array (Option Value)} {oc_Plan___init__ kV_Plan___init__ dc_Plan___init__ pm_Plan___init__ cd_Plan___init__ ct_Plan___init__ : Value}
    (a_Plan___init__ : PySem.W.findIn K (.ref (cls 2)) "__init__" = some (some (.ref f_Plan___init__)))
    (i_Plan___init__ : PySem.W.isFn K (.ref f_Plan___init__) = true)
    (l_Plan___init__ : K.lookup f_Plan___init__ = some ⟨oc_Plan___init__, od_Plan___init__, .func (PySem.W.fnOf "__init__" "Plan.__init__" (defArgs s_Plan___init__) (defBody s_Plan___init__) (defScope s_Plan___init__) .none kV_Plan___init__ dc_Plan___init__ pm_Plan___init__ an_Plan___init__ cd_Plan___init__ ct_Plan___init__), sl_Plan___init__⟩)
    (c_Plan___init__ : PySem.W.codeIn K cd_Plan___init__ "Plan.__init__" = true) (k_Plan___init__ : PySem.W.keepIn K (.ref f_Plan___init__) = true)
    {f__law_made : Addr} {od__law_made an__law_made : Option Addr} {sl__law_made : Array (Option Value)} {oc__law_made kV__law_made dc__law_made pm__law_made cd__law_made ct__law_made : Value}
    (a__law_made : PySem.W.nsIn K mainGlobals "_law_made" = some (some (.ref f__law_made)))
    (l__law_made : K.lookup f__law_made = some ⟨oc__law_made, od__law_made, .func (PySem.W.fnOf "_law_made" "_law_made" (defArgs s__law_made) (defBody s__law_made) (defScope s__law_made) .none kV__law_made dc__law_made pm__law_made an__law_made cd__law_made ct__law_made), sl__law_made⟩)
    (c__law_made : PySem.W.codeIn K cd__law_made "_law_made" = true) (k__law_made : PySem.W.keepIn K (.ref f__law_made) = true)
    {f__law_bent : Addr} {od__law_bent an__law_bent : Option Addr} {sl__law_bent : Array (Option Value)} {oc__law_bent kV__law_bent dc__law_bent pm__law_bent cd__law_bent ct__law_bent : Value}
    (a__law_bent : PySem.W.nsIn K mainGlobals "_law_bent" = some (some (.ref f__law_bent)))
    (l__law_bent : K.lookup f__law_bent = some ⟨oc__law_bent, od__law_bent, .func (PySem.W.fnOf "_law_bent" "_law_bent" (defArgs s__law_bent) (defBody s__law_bent) (defScope s__law_bent) .none kV__law_bent dc__law_bent pm__law_bent an__law_bent cd__law_bent ct__law_bent), sl__law_bent⟩)
    (c__law_bent : PySem.W.codeIn K cd__law_bent "_law_bent" = true) (k__law_bent : PySem.W.keepIn K (.ref f__law_bent) = true)
    {f_Plan___eq__ : Addr} {od_Plan___eq__ an_Plan___eq__ : Option Addr} {sl_Plan___eq__ : Array (Option Value)} {oc_Plan___eq__ kV_Plan___eq__ dc_Plan___eq__ pm_Plan___eq__ cd_Plan___eq__ ct_Plan___eq__ : Value}
    (a_Plan___eq__ : PySem.W.findIn K (.ref (cls 2)) "__eq__" = some (some (.ref f_Plan___eq__)))
    (i_Plan___eq__ : PySem.W.isFn K (.ref f_Plan___eq__) = true)
    (l_Plan___eq__ : K.lookup f_Plan___eq__ = some ⟨oc_Plan___eq__, od_Plan___eq__, .func (PySem.W.fnOf "__eq__" "Plan.__eq__" (defArgs s_Plan___eq__) (defBody s_Plan___eq__) (defScope s_Plan___eq__) .none kV_Plan___eq__ dc_Plan___eq__ pm_Plan___eq__ an_Plan___eq__ cd_Plan___eq__ ct_Plan___eq__), sl_Plan___eq__⟩)
    (c_Plan___eq__ : PySem.W.codeIn K cd_Plan___eq__ "Plan.__eq__" = true) (k_Plan___eq__ : PySem.W.keepIn K (.ref f_Plan___eq__) = true)
    {f_Plan_many_notes : Addr} {od_Plan_many_notes an_Plan_many_notes : Option Addr} {sl_Plan_many_notes : Array (Option Value)} {oc_Plan_many_notes kV_Plan_many_notes dc_Plan_many_notes pm_Plan_many_notes cd_Plan_many_notes ct_Plan_many_notes : Value}
    (a_Plan_many_notes : PySem.W.findIn K (.ref (cls 2)) "many_notes" = some (some (.ref f_Plan_many_notes)))
    (i_Plan_many_notes : PySem.W.isFn K (.ref f_Plan_many_notes) = true)
    (l_Plan_many_notes : K.lookup f_Plan_many_notes = some ⟨oc_Plan_many_notes, od_Plan_many_notes, .func (PySem.W.fnOf "many_notes" "Plan.many_notes" (defArgs s_Plan_many_notes) (defBody s_Plan_many_notes) (defScope s_Plan_many_notes) .none kV_Plan_many_notes dc_Plan_many_notes pm_Plan_many_notes an_Plan_many_notes cd_Plan_many_notes ct_Plan_many_notes), sl_Plan_many_notes⟩)
    (c_Plan_many_notes : PySem.W.codeIn K cd_Plan_many_notes "Plan.many_notes" = true) (k_Plan_many_notes : PySem.W.keepIn K (.ref f_Plan_many_notes) = true)
    {f_Plan___len__ : Addr} {od_Plan___len__ an_Plan___len__ : Option Addr} {sl_Plan___len__ : Array (Option Value)} {oc_Plan___len__ kV_Plan___len__ dc_Plan___len__ pm_Plan___len__ cd_Plan___len__ ct_Plan___len__ : Value}
    (a_Plan___len__ : PySem.W.findIn K (.ref (cls 2)) "__len__" = some (some (.ref f_Plan___len__)))
    (i_Plan___len__ : PySem.W.isFn K (.ref f_Plan___len__) = true)
    (l_Plan___len__ : K.lookup f_Plan___len__ = some ⟨oc_Plan___len__, od_Plan___len__, .func (PySem.W.fnOf "__len__" "Plan.__len__" (defArgs s_Plan___len__) (defBody s_Plan___len__) (defScope s_Plan___len__) .none kV_Plan___len__ dc_Plan___len__ pm_Plan___len__ an_Plan___len__ cd_Plan___len__ ct_Plan___len__), sl_Plan___len__⟩)
    (c_Plan___len__ : PySem.W.codeIn K cd_Plan___len__ "Plan.__len__" = true) (k_Plan___len__ : PySem.W.keepIn K (.ref f_Plan___len__) = true)
    {f_Plan_row_at : Addr} {od_Plan_row_at an_Plan_row_at : Option Addr} {sl_Plan_row_at : Array (Option Value)} {oc_Plan_row_at kV_Plan_row_at dc_Plan_row_at pm_Plan_row_at cd_Plan_row_at ct_Plan_row_at : Value}
    (a_Plan_row_at : PySem.W.findIn K (.ref (cls 2)) "row_at" = some (some (.ref f_Plan_row_at)))
    (i_Plan_row_at : PySem.W.isFn K (.ref f_Plan_row_at) = true)
    (l_Plan_row_at : K.lookup f_Plan_row_at = some ⟨oc_Plan_row_at, od_Plan_row_at, .func (PySem.W.fnOf "row_at" "Plan.row_at" (defArgs s_Plan_row_at) (defBody s_Plan_row_at) (defScope s_Plan_row_at) .none kV_Plan_row_at dc_Plan_row_at pm_Plan_row_at an_Plan_row_at cd_Plan_row_at ct_Plan_row_at), sl_Plan_row_at⟩)
    (c_Plan_row_at : PySem.W.codeIn K cd_Plan_row_at "Plan.row_at" = true) (k_Plan_row_at : PySem.W.keepIn K (.ref f_Plan_row_at) = true)
    {f_law : Addr} {od_law an_law : Option Addr} {sl_law : Array (Option Value)} {oc_law kV_law dc_law pm_law cd_law ct_law : Value}
    (a_law : PySem.W.nsIn K mainGlobals "law" = some (some (.ref f_law)))
    (l_law : K.lookup f_law = some ⟨oc_law, od_law, .func (PySem.W.fnOf "law" "law" (defArgs s_law) (defBody s_law) (defScope s_law) .none kV_law dc_law pm_law an_law cd_law ct_law), sl_law⟩)
    (c_law : PySem.W.codeIn K cd_law "law" = true) (k_law : PySem.W.keepIn K (.ref f_law) = true)
    (n_isinstance : PySem.W.nsIn K mainGlobals "isinstance" = some none)
    (n_str : PySem.W.nsIn K mainGlobals "str" = some none)
    (n_len : PySem.W.nsIn K mainGlobals "len" = some none)
    (n_int : PySem.W.nsIn K mainGlobals "int" = some none)
    (n_bool : PySem.W.nsIn K mainGlobals "bool" = some none)
    (n_tuple : PySem.W.nsIn K mainGlobals "tuple" = some none)
    (n_list : PySem.W.nsIn K mainGlobals "list" = some none)
    (n_range : PySem.W.nsIn K mainGlobals "range" = some none)
    (n_zip : PySem.W.nsIn K mainGlobals "zip" = some none)
    (n_all : PySem.W.nsIn K mainGlobals "all" = some none)
    (n_sorted : PySem.W.nsIn K mainGlobals "sorted" = some none)
    (n_max : PySem.W.nsIn K mainGlobals "max" = some none)
    {t_MOST_NUMBER : Tok} (q_MOST_NUMBER : PySem.W.nsIn K mainGlobals "MOST_NUMBER" = some (some (Value.int 9999999999999999999999999999999999999999 t_MOST_NUMBER)))
    : ∃ fd : FuncData, (∀ (s : Shared) (v : Value), BindsTo s fd ⟨[v], []⟩ [("script", v)]) ∧ ∀ base : Heap, K.In base → base.Ns mainGlobals mg → FnOk l.prog w K mg base (L2.CX l.prog w) 9 fa fd ["script"] (spD ⟨l.prog, w, K, cls⟩ 1 d_law) := by
  have e := hfa.symm.trans (PySem.W.mg_of X G a_law)
  cases e
  let Γ : Gb := ⟨l.prog, w, K, cls⟩
  have g_MOST_NUMBER : GC Γ mg "MOST_NUMBER" (toV c_MOST_NUMBER) c_MOST_NUMBER := gc_scal (PySem.W.mg_of X G q_MOST_NUMBER) rfl (by exact ⟨_, rfl⟩)
  have z_isinstance : mg "isinstance" = none := PySem.W.mg_none_of X G n_isinstance
  have z_str : mg "str" = none := PySem.W.mg_none_of X G n_str
  have z_len : mg "len" = none := PySem.W.mg_none_of X G n_len
  have z_int : mg "int" = none := PySem.W.mg_none_of X G n_int
  have z_bool : mg "bool" = none := PySem.W.mg_none_of X G n_bool
  have z_tuple : mg "tuple" = none := PySem.W.mg_none_of X G n_tuple
  have z_list : mg "list" = none := PySem.W.mg_none_of X G n_list
  have z_range : mg "range" = none := PySem.W.mg_none_of X G n_range
  have z_zip : mg "zip" = none := PySem.W.mg_none_of X G n_zip
  have z_all : mg "all" = none := PySem.W.mg_none_of X G n_all
  have z_sorted : mg "sorted" = none := PySem.W.mg_none_of X G n_sorted
  have z_max : mg "max" = none := PySem.W.mg_none_of X G n_max
  have F_BadRow___init__ : Fun Γ.K "__init__" "BadRow.__init__" s_BadRow___init__ _ _ := fun_mk (st := s_BadRow___init__) l_BadRow___init__ c_BadRow___init__ k_BadRow___init__
  have B_BadRow___init__ := F_BadRow___init__.binds (ps := ["self", "what", "row"]) fun _ _ _ _ _ _ us hl => match us, hl with | [_, _, _], _ => rfl
  have gm_BadRow : mg "BadRow" = some (.ref (Γ.cls 1)) := PySem.W.mg_of X G a_BadRow
  have T_BadRow : OexC Γ.K (Γ.cls 1) := ⟨⟨nm_BadRow, qq_BadRow, N_BadRow, bs_BadRow, bm_BadRow, sn_BadRow, sub_BadRow, ab_BadRow, col_BadRow, dd_BadRow, m0_BadRow, m1_BadRow, m2_BadRow, m3_BadRow, m5_BadRow, xL_BadRow, rf_BadRow⟩, sa_BadRow, ex_BadRow, tC_BadRow, kp_BadRow⟩
  have xf_BadRow : XfC Γ.K (Γ.cls 1) := ⟨ga_BadRow, gg_BadRow, ex_BadRow, hd_BadRow⟩
  have eP_BadRow : PySem.W.exmOne Γ.K (.ref (Γ.cls 1)) (.ref (Γ.cls 1)) = some true := Den.exm_self ex_BadRow iC_BadRow tC_BadRow sC_BadRow
  have gm_Plan : mg "Plan" = some (.ref (Γ.cls 2)) := PySem.W.mg_of X G a_Plan
  have cc_Plan : Cls Γ.K (Γ.cls 2) := ⟨pg_Plan, hd_Plan, po_Plan, sa_Plan⟩
  have I_Plan : ClI Γ mg "Plan" 2 := ⟨gm_Plan, cc_Plan, Ia_Plan, In_Plan, It_Plan, Io_Plan, kit_self, kit_nos iC_Plan tC_Plan Iz_Plan_NoneType Iz_Plan_bool Iz_Plan_int Iz_Plan_str Iz_Plan_tuple Iz_Plan_list Iz_Plan_dict⟩
  have F_is_name : Fun Γ.K "is_name" "is_name" s_is_name _ _ := fun_mk (st := s_is_name) l_is_name c_is_name k_is_name
  have B_is_name := F_is_name.binds (ps := ["value"]) fun _ _ _ _ _ _ us hl => match us, hl with | [_], _ => rfl
  have F_is_whole : FunD Γ.K "is_whole" "is_whole" (defArgs s_is_whole) (defBody s_is_whole) (defScope s_is_whole) [toV (.non)] [] _ _ := funD_mk (st := s_is_whole) (its := [Value.none]) l_is_whole u_is_whole (by simp) (by exact (.cons (rfl) .nil)) c_is_whole k_is_whole
  have B_is_whole_0 := F_is_whole.binds1 (ps := ["value", "least", "most"]) 3 1 (by simp) rfl fun _ _ _ _ _ _ _ us its hu hi => match us, its, hu, hi with | [_, _, _], [_], _, _ => ⟨_, rfl, rfl⟩
  have B_is_whole_1 := F_is_whole.binds1 (ps := ["value", "least", "most"]) 2 0 (by simp) rfl fun _ _ _ _ _ _ _ us its hu hi => match us, its, hu, hi with | [_, _], [_], _, _ => ⟨_, rfl, rfl⟩
  have F_is_listed : Fun Γ.K "is_listed" "is_listed" s_is_listed _ _ := fun_mk (st := s_is_listed) l_is_listed c_is_listed k_is_listed
  have B_is_listed := F_is_listed.binds (ps := ["value"]) fun _ _ _ _ _ _ us hl => match us, hl with | [_], _ => rfl
  have F_is_plan_row : Fun Γ.K "is_plan_row" "is_plan_row" s_is_plan_row _ _ := fun_mk (st := s_is_plan_row) l_is_plan_row c_is_plan_row k_is_plan_row
  have B_is_plan_row := F_is_plan_row.binds (ps := ["value"]) fun _ _ _ _ _ _ us hl => match us, hl with | [_], _ => rfl
  have F__law_pen : Fun Γ.K "_law_pen" "_law_pen" s__law_pen _ _ := fun_mk (st := s__law_pen) l__law_pen c__law_pen k__law_pen
  have B__law_pen := F__law_pen.binds (ps := ["script"]) fun _ _ _ _ _ _ us hl => match us, hl with | [_], _ => rfl
  have F__law_draw : Fun Γ.K "_law_draw" "_law_draw" s__law_draw _ _ := fun_mk (st := s__law_draw) l__law_draw c__law_draw k__law_draw
  have B__law_draw := F__law_draw.binds (ps := ["pen", "many"]) fun _ _ _ _ _ _ us hl => match us, hl with | [_, _], _ => rfl
  have F__law_pick : Fun Γ.K "_law_pick" "_law_pick" s__law_pick _ _ := fun_mk (st := s__law_pick) l__law_pick c__law_pick k__law_pick
  have B__law_pick := F__law_pick.binds (ps := ["pen", "some"]) fun _ _ _ _ _ _ us hl => match us, hl with | [_, _], _ => rfl
  have F__law_shuffled : Fun Γ.K "_law_shuffled" "_law_shuffled" s__law_shuffled _ _ := fun_mk (st := s__law_shuffled) l__law_shuffled c__law_shuffled k__law_shuffled
  have B__law_shuffled := F__law_shuffled.binds (ps := ["pen", "some"]) fun _ _ _ _ _ _ us hl => match us, hl with | [_, _], _ => rfl
  have F__law_name : Fun Γ.K "_law_name" "_law_name" s__law_name _ _ := fun_mk (st := s__law_name) l__law_name c__law_name k__law_name
  have B__law_name := F__law_name.binds (ps := ["pen", "index"]) fun _ _ _ _ _ _ us hl => match us, hl with | [_, _], _ => rfl
  have F__law_names : Fun Γ.K "_law_names" "_law_names" s__law_names _ _ := fun_mk (st := s__law_names) l__law_names c__law_names k__law_names
  have B__law_names := F__law_names.binds (ps := ["pen", "many"]) fun _ _ _ _ _ _ us hl => match us, hl with | [_, _], _ => rfl
  have F__law_alike : Fun Γ.K "_law_alike" "_law_alike" s__law_alike _ _ := fun_mk (st := s__law_alike) l__law_alike c__law_alike k__law_alike
  have B__law_alike := F__law_alike.binds (ps := ["one", "other"]) fun _ _ _ _ _ _ us hl => match us, hl with | [_, _], _ => rfl
  have F__law_is_name : Fun Γ.K "_law_is_name" "_law_is_name" s__law_is_name _ _ := fun_mk (st := s__law_is_name) l__law_is_name c__law_is_name k__law_is_name
  have B__law_is_name := F__law_is_name.binds (ps := ["value"]) fun _ _ _ _ _ _ us hl => match us, hl with | [_], _ => rfl
  have F__law_plan_rows : Fun Γ.K "_law_plan_rows" "_law_plan_rows" s__law_plan_rows _ _ := fun_mk (st := s__law_plan_rows) l__law_plan_rows c__law_plan_rows k__law_plan_rows
  have B__law_plan_rows := F__law_plan_rows.binds (ps := ["plan"]) fun _ _ _ _ _ _ us hl => match us, hl with | [_], _ => rfl
  have F__law_is_number : Fun Γ.K "_law_is_number" "_law_is_number" s__law_is_number _ _ := fun_mk (st := s__law_is_number) l__law_is_number c__law_is_number k__law_is_number
  have B__law_is_number := F__law_is_number.binds (ps := ["value"]) fun _ _ _ _ _ _ us hl => match us, hl with | [_], _ => rfl
  have F__law_are_rows : Fun Γ.K "_law_are_rows" "_law_are_rows" s__law_are_rows _ _ := fun_mk (st := s__law_are_rows) l__law_are_rows c__law_are_rows k__law_are_rows
  have B__law_are_rows := F__law_are_rows.binds (ps := ["rows"]) fun _ _ _ _ _ _ us hl => match us, hl with | [_], _ => rfl
  have F_Plan___init__ : Fun Γ.K "__init__" "Plan.__init__" s_Plan___init__ _ _ := fun_mk (st := s_Plan___init__) l_Plan___init__ c_Plan___init__ k_Plan___init__
  have B_Plan___init__ := F_Plan___init__.binds (ps := ["self", "rows"]) fun _ _ _ _ _ _ us hl => match us, hl with | [_, _], _ => rfl
  have F__law_made : Fun Γ.K "_law_made" "_law_made" s__law_made _ _ := fun_mk (st := s__law_made) l__law_made c__law_made k__law_made
  have B__law_made := F__law_made.binds (ps := ["rows"]) fun _ _ _ _ _ _ us hl => match us, hl with | [_], _ => rfl
  have F__law_bent : Fun Γ.K "_law_bent" "_law_bent" s__law_bent _ _ := fun_mk (st := s__law_bent) l__law_bent c__law_bent k__law_bent
  have B__law_bent := F__law_bent.binds (ps := ["pen", "rows"]) fun _ _ _ _ _ _ us hl => match us, hl with | [_, _], _ => rfl
  have F_Plan___eq__ : Fun Γ.K "__eq__" "Plan.__eq__" s_Plan___eq__ _ _ := fun_mk (st := s_Plan___eq__) l_Plan___eq__ c_Plan___eq__ k_Plan___eq__
  have B_Plan___eq__ := F_Plan___eq__.binds (ps := ["self", "other"]) fun _ _ _ _ _ _ us hl => match us, hl with | [_, _], _ => rfl
  have F_Plan_many_notes : Fun Γ.K "many_notes" "Plan.many_notes" s_Plan_many_notes _ _ := fun_mk (st := s_Plan_many_notes) l_Plan_many_notes c_Plan_many_notes k_Plan_many_notes
  have B_Plan_many_notes := F_Plan_many_notes.binds (ps := ["self"]) fun _ _ _ _ _ _ us hl => match us, hl with | [_], _ => rfl
  have F_Plan___len__ : Fun Γ.K "__len__" "Plan.__len__" s_Plan___len__ _ _ := fun_mk (st := s_Plan___len__) l_Plan___len__ c_Plan___len__ k_Plan___len__
  have B_Plan___len__ := F_Plan___len__.binds (ps := ["self"]) fun _ _ _ _ _ _ us hl => match us, hl with | [_], _ => rfl
  have F_Plan_row_at : Fun Γ.K "row_at" "Plan.row_at" s_Plan_row_at _ _ := fun_mk (st := s_Plan_row_at) l_Plan_row_at c_Plan_row_at k_Plan_row_at
  have B_Plan_row_at := F_Plan_row_at.binds (ps := ["self", "place", "note"]) fun _ _ _ _ _ _ us hl => match us, hl with | [_, _, _], _ => rfl
  have F_law : Fun Γ.K "law" "law" s_law _ _ := fun_mk (st := s_law) l_law c_law k_law
  refine ⟨PySem.W.fnOf "law" "law" (defArgs s_law) (defBody s_law) (defScope s_law) .none kV_law dc_law pm_law an_law cd_law ct_law, fun s v => .of_eq rfl, fun base _ _ => ?_⟩
  have X_BadRow : ClX Γ mg base 1 "BadRow" 1 ["what", "row"] := ⟨_, _, _, ok_BadRow___init__ (Γ := Γ) (base := base) F_BadRow___init__ T_BadRow no_BadRow_what no_BadRow_row, T_BadRow, a_BadRow___init__, t_BadRow___init__, gm_BadRow, B_BadRow___init__⟩
  have C_is_name : Cl Γ mg base 1 "is_name" 1 [] (d_is_name) := cl_mk0 (ok_is_name (Γ := Γ) (base := base) F_is_name z_isinstance z_str z_len) (PySem.W.mg_of X G a_is_name) k_is_name B_is_name
  have C_is_whole_0 : Cl Γ mg base 1 "is_whole" 3 [] (d_is_whole) := cl_mkD (dds := []) (ok_is_whole (Γ := Γ) (base := base) F_is_whole z_isinstance z_int z_bool) (PySem.W.mg_of X G a_is_whole) k_is_whole B_is_whole_0 rfl
  have C_is_whole_1 : Cl Γ mg base 1 "is_whole" 3 [.non] (d_is_whole) := cl_mkD (dds := [.non]) (ok_is_whole (Γ := Γ) (base := base) F_is_whole z_isinstance z_int z_bool) (PySem.W.mg_of X G a_is_whole) k_is_whole B_is_whole_1 rfl
  have C_is_listed : Cl Γ mg base 1 "is_listed" 1 [] (d_is_listed) := cl_mk0 (ok_is_listed (Γ := Γ) (base := base) F_is_listed z_isinstance z_tuple z_list) (PySem.W.mg_of X G a_is_listed) k_is_listed B_is_listed
  have C_is_plan_row : Cl Γ mg base 2 "is_plan_row" 1 [] (d_is_plan_row) := cl_mk0 (ok_is_plan_row (Γ := Γ) (base := base) F_is_plan_row C_is_name C_is_whole_0 C_is_whole_1 z_isinstance z_tuple z_len g_MOST_NUMBER) (PySem.W.mg_of X G a_is_plan_row) k_is_plan_row B_is_plan_row
  have C__law_pen : Cl Γ mg base 1 "_law_pen" 1 [] (d__law_pen) := cl_mk0 (ok__law_pen (Γ := Γ) (base := base) F__law_pen z_int z_list) (PySem.W.mg_of X G a__law_pen) k__law_pen B__law_pen
  have C__law_draw : Cl Γ mg base 1 "_law_draw" 2 [] (d__law_draw) := cl_mk0 (ok__law_draw (Γ := Γ) (base := base) F__law_draw z_len z_int) (PySem.W.mg_of X G a__law_draw) k__law_draw B__law_draw
  have C__law_pick : Cl Γ mg base 2 "_law_pick" 2 [] (d__law_pick) := cl_mk0 (ok__law_pick (Γ := Γ) (base := base) F__law_pick C__law_draw z_len) (PySem.W.mg_of X G a__law_pick) k__law_pick B__law_pick
  have C__law_shuffled : Cl Γ mg base 2 "_law_shuffled" 2 [] (d__law_shuffled) := cl_mk0 (ok__law_shuffled (Γ := Γ) (base := base) F__law_shuffled C__law_draw z_list z_range z_len) (PySem.W.mg_of X G a__law_shuffled) k__law_shuffled B__law_shuffled
  have C__law_name : Cl Γ mg base 2 "_law_name" 2 [] (d__law_name) := cl_mk0 (ok__law_name (Γ := Γ) (base := base) F__law_name C__law_draw z_range z_len z_str) (PySem.W.mg_of X G a__law_name) k__law_name B__law_name
  have C__law_names : Cl Γ mg base 3 "_law_names" 2 [] (d__law_names) := cl_mk0 (ok__law_names (Γ := Γ) (base := base) F__law_names C__law_shuffled C__law_name z_range) (PySem.W.mg_of X G a__law_names) k__law_names B__law_names
  have C__law_alike : Cl Γ mg base 8 "_law_alike" 2 [] (d__law_alike 8) := by
    have all : ∀ n, Cl Γ mg base (0 + n) "_law_alike" 2 [] (d__law_alike n) := fun n => by
      induction n with
      | zero => exact cl_mk0 (ps := ["one", "other"]) (fn_stuck rfl) (PySem.W.mg_of X G a__law_alike) k__law_alike B__law_alike
      | succ n ih => exact cl_mk0 (ok__law_alike (Γ := Γ) (base := base) F__law_alike ih z_isinstance z_tuple z_list z_len z_zip z_all z_bool) (PySem.W.mg_of X G a__law_alike) k__law_alike B__law_alike
    exact all 8
  have C__law_is_name : Cl Γ mg base 1 "_law_is_name" 1 [] (d__law_is_name) := cl_mk0 (ok__law_is_name (Γ := Γ) (base := base) F__law_is_name z_isinstance z_str z_len z_all) (PySem.W.mg_of X G a__law_is_name) k__law_is_name B__law_is_name
  have C__law_plan_rows : Cl Γ mg base 1 "_law_plan_rows" 1 [] (d__law_plan_rows) := cl_mk0 (ok__law_plan_rows (Γ := Γ) (base := base) F__law_plan_rows z_list z_sorted) (PySem.W.mg_of X G a__law_plan_rows) k__law_plan_rows B__law_plan_rows
  have C__law_is_number : Cl Γ mg base 1 "_law_is_number" 1 [] (d__law_is_number) := cl_mk0 (ok__law_is_number (Γ := Γ) (base := base) F__law_is_number z_isinstance z_int z_bool) (PySem.W.mg_of X G a__law_is_number) k__law_is_number B__law_is_number
  have C__law_are_rows : Cl Γ mg base 2 "_law_are_rows" 1 [] (d__law_are_rows) := cl_mk0 (ok__law_are_rows (Γ := Γ) (base := base) F__law_are_rows C__law_is_name C__law_is_number z_isinstance z_tuple z_list z_len z_range) (PySem.W.mg_of X G a__law_are_rows) k__law_are_rows B__law_are_rows
  have N_Plan : ClN Γ mg base 3 "Plan" 2 1 (d_Plan___init__) := ⟨_, _, _, ok_Plan___init__ (Γ := Γ) (base := base) F_Plan___init__ X_BadRow cc_Plan na_Plan_rows na_Plan__told C_is_listed C_is_plan_row z_all z_len z_list z_sorted z_tuple, ⟨mk_Plan, a_Plan___init__, i_Plan___init__, kp_Plan⟩, gm_Plan, B_Plan___init__⟩
  have C__law_made : Cl Γ mg base 5 "_law_made" 1 [] (d__law_made) := cl_mk0 (ok__law_made (Γ := Γ) (base := base) F__law_made xf_BadRow no_BadRow_what no_BadRow_row eP_BadRow gm_BadRow N_Plan) (PySem.W.mg_of X G a__law_made) k__law_made B__law_made
  have C__law_bent : Cl Γ mg base 3 "_law_bent" 2 [] (d__law_bent) := cl_mk0 (ok__law_bent (Γ := Γ) (base := base) F__law_bent C__law_draw C__law_pick z_len z_list) (PySem.W.mg_of X G a__law_bent) k__law_bent B__law_bent
  have E_Plan : ClE Γ mg base 1 2 (d_Plan___eq__) := ⟨_, _, _, ok_Plan___eq__ (Γ := Γ) (base := base) F_Plan___eq__ I_Plan cc_Plan na_Plan_rows z_isinstance, a_Plan___eq__, i_Plan___eq__, B_Plan___eq__, En_Plan⟩
  have M_Plan_many_notes : ClM Γ mg base 1 2 "many_notes" 0 (d_Plan_many_notes) := ⟨_, _, _, ok_Plan_many_notes (Γ := Γ) (base := base) F_Plan_many_notes cc_Plan na_Plan_rows z_max, cc_Plan, ⟨a_Plan_many_notes, i_Plan_many_notes, k_Plan_many_notes⟩, B_Plan_many_notes⟩
  have L_Plan : ClL Γ mg base 1 2 (d_Plan___len__) := ⟨_, _, _, ok_Plan___len__ (Γ := Γ) (base := base) F_Plan___len__ cc_Plan na_Plan_rows z_len, a_Plan___len__, i_Plan___len__, B_Plan___len__⟩
  have M_Plan_row_at : ClM Γ mg base 2 2 "row_at" 2 (d_Plan_row_at) := ⟨_, _, _, ok_Plan_row_at (Γ := Γ) (base := base) F_Plan_row_at cc_Plan na_Plan__told C_is_name C_is_whole_0 C_is_whole_1, cc_Plan, ⟨a_Plan_row_at, i_Plan_row_at, k_Plan_row_at⟩, B_Plan_row_at⟩
  exact ok_law (Γ := Γ) (base := base) F_law cc_Plan na_Plan_rows L_Plan E_Plan M_Plan_many_notes M_Plan_row_at N_Plan C__law_pen C__law_names C__law_draw C__law_pick C__law_shuffled C__law_plan_rows C__law_made C__law_alike C__law_is_number C__law_bent C__law_are_rows z_range z_list z_tuple z_sorted z_len z_max z_isinstance z_str
end
end Lw
end
section
set_option maxHeartbeats 0
open PySem L2 Den
local macro_rules | `(tactic| infer_instance) => `(tactic| (((with_reducible show Sz _); unfold Sz; first | (with_reducible assumption) | (omega) | (simp only [List.length_map, List.length_append, List.length_cons, List.length_nil, List.length_reverse, List.length_range, List.length_take, List.length_drop, len_app, len1]; omega))))
local macro_rules | `(tactic| fold_depth) => `(tactic| (first | ((with_reducible show At _ _ _); first | (with_reducible exact at0) | (with_reducible exact at1) | (with_reducible exact at2) | (with_reducible exact at3) | (with_reducible exact at4)) | ((with_reducible show St _ _ _ _); first | (with_reducible exact st0) | (with_reducible exact st1) | (with_reducible exact st2) | (with_reducible exact st3) | (with_reducible exact st4)) | ((with_reducible show Fu _ _); first | (with_reducible exact fu0) | (with_reducible exact fu1) | (with_reducible exact fu2) | (with_reducible exact fu3)) | ((with_reducible show Em _ _); first | (with_reducible exact em0))))
local macro_rules | `(tactic| keq_rows) => `(tactic| (fail))
local macro_rules | `(tactic| tb_start) => `(tactic| (first | ((with_reducible show _ = _); first | (with_reducible assumption) | ((with_reducible show gIx _ _ = _); first | (with_reducible refine' op_ixS ?_) | (with_reducible refine' ix_cells) | (with_reducible refine' ix_at) | (with_reducible refine' ix_digits) | (with_reducible refine' ix_count) | (with_reducible refine' ix_fold)) | ((with_reducible show gLen _ = _); first | (with_reducible refine' len_L) | (with_reducible refine' len_S)) | ((with_reducible show gEq _ _ = _); first | (with_reducible refine' op_eq ?_)) | ((with_reducible show gAdd _ _ = _); first | (with_reducible refine' op_addI)) | ((with_reducible show Den.gSub _ _ = _); first | (with_reducible refine' op_sub)) | ((with_reducible show gLt _ _ = _); first | (with_reducible refine' op_ltI)) | ((with_reducible show gGt _ _ = _); first | (with_reducible refine' op_gtI)) | ((with_reducible show gGe _ _ = _); first | (with_reducible refine' op_geI)) | ((with_reducible show setO _ _ _ = _); first | (with_reducible refine' set_at) | (with_reducible refine' set_digits) | (with_reducible refine' set_count) | (with_reducible refine' set_fold)) | (with_reducible refine' op_mulI ?_) | (with_reducible refine' op_mod ?_) | (with_reducible refine' op_fdiv ?_) | (with_reducible refine' op_pow ?_) | (with_reducible refine' list_W) | (with_reducible refine' int_i))))
local macro_rules | `(tactic| keq_hits) => `(tactic| (first | ((with_reducible show _ = _); first | ((with_reducible show gEqD _ _ = _); first | (with_reducible refine' eq_ii)) | ((with_reducible show atI _ _ = _); first | (with_reducible refine' ix_nat ?_)) | (with_reducible refine' ix_map ?_))))
local macro_rules | `(tactic| kat_tups) => `(tactic| ((with_reducible show (_ : Prop)); first | ((with_reducible show Ev _ _ _ _); first | (with_reducible exact ev_c) | ((with_reducible refine' ev_var ?_); fold_depth) | (with_reducible refine' ev_op2 ?_ ?_) | (with_reducible refine' ev_op1 ?_ ?_) | (with_reducible refine' ev_fz ?_ ?_) | (with_reducible refine' ev_lst ?_ ?_) | ((with_reducible refine' ev_mv1 ?_); fold_depth) | ((with_reducible refine' ev_mvO ?a ?_ ?_); (case a => fold_depth)) | (with_reducible refine' ev_call ?_ ?_ ?_ ?_ ?_) | (with_reducible refine' ev_append ?_ ?_ ?_ ?_ ?_) | (with_reducible refine' ev_pen ?_) | (with_reducible refine' ev_popAt ?_ ?_ ?_ rfl ?_ ?_ ?_)) | ((with_reducible show EvT _ _ _ _); first | (with_reducible refine' evt_b ?_) | (with_reducible refine' evt_and ?_ ?_)) | ((with_reducible show EvO _ _ _ _); first | (with_reducible exact evo_0) | (with_reducible refine' evo_x ?_ ?_) | (with_reducible refine' evo_p ?_ ?_ ?_)) | ((with_reducible show EvS _ _ _ _); first | (with_reducible exact evs_0) | (with_reducible refine' evs_x ?_ ?_)) | ((with_reducible show EvA _ _ _ _); first | (with_reducible exact eva_0) | (with_reducible refine' eva_x ?_ ?_) | (with_reducible refine' eva_p ?_ ?_)) | ((with_reducible show EvI _ _ _ _); first | (with_reducible refine' evi_it ?_ ?_) | (with_reducible refine' evi_rng ?_ ?_ ?_)) | ((with_reducible show Fz _ _); first | (with_reducible exact fz_1) | (with_reducible exact fz_2)) | ((with_reducible show Own _); first | (with_reducible exact own_L) | (with_reducible exact own_pen)) | ((with_reducible show Tak _ _ _ _); first | (with_reducible exact tak_0) | (with_reducible refine' tak_o ?_) | (with_reducible refine' tak_p ?_ ?_ ?_ ?_)) | ((with_reducible show Giv _ _ _ _); first | (with_reducible exact giv_0) | (with_reducible refine' giv_o ?_) | (with_reducible refine' giv_p ?_ ?_ ?_)) | ((with_reducible show Lis _ _); first | (with_reducible exact lis_0) | (with_reducible refine' lis_s ?_)) | ((with_reducible show ItR _ _); first | (with_reducible exact itr_w)) | ((with_reducible show Rn _ _); first | (with_reducible exact rn_nat)) | ((with_reducible show Tg _ _ _ _); first | (with_reducible refine' tg_n ?_)) | ((with_reducible show AndR _ _ _ _ _); first | (with_reducible refine' andr_g ?_)) | ((with_reducible show Ini _ _ _ _); first | (with_reducible exact ini_0) | (with_reducible refine' ini_t ?_) | (with_reducible refine' ini_n ?_)) | ((with_reducible show Outs _ _ _ _); first | (with_reducible exact outs_0) | (with_reducible refine' outs_t ?_)) | (fold_depth) | ((with_reducible show _ = FRes.ret _ _); first | (with_reducible assumption)) | ((with_reducible show (_ : Prop)); with_reducible intro _) | (infer_instance) | (tb_start) | (keq_hits)))
local macro_rules | `(tactic| tb_rel) => `(tactic| (first | (fail_if_success (with_reducible show (_ : Prop))) | (kat_tups; all_goals tb_rel)))
local macro_rules | `(tactic| kbo_bools) => `(tactic| (first | ((with_reducible refine' pws_set ?e ?s ?k); (case' e => tb_rel); (case' s => tb_rel)) | ((with_reducible refine' pws_if ?e ?k); (case' e => tb_rel); (case' k => first | (skip))) | ((with_reducible refine' pws_ret ?e ?k); (case' e => tb_rel)) | ((with_reducible refine' pw_ret ?e ?k); (case' e => tb_rel)) | ((with_reducible refine' pws_drop ?e ?k); (case' e => tb_rel)) | ((with_reducible refine' pws_par ?e ?f ?s ?t ?k); (case' e => tb_rel); (case' f => tb_rel); (case' s => tb_rel); (case' t => tb_rel)) | ((with_reducible refine' pws_sub ?e ?f ?g ?h ?s ?t ?u ?k); (case' e => tb_rel); (case' f => tb_rel); (case' g => tb_rel); (case' h => tb_rel); (case' s => tb_rel); (case' t => tb_rel); (case' u => tb_rel)) | (with_reducible refine' pw_as ?_) | (with_reducible refine' pws_nx ?_) | (with_reducible refine' pw_nx ?_) | (with_reducible refine' pw_end (sSet _ _) ?_) | (with_reducible refine' pw_end (sDrop _) ?_) | (with_reducible refine' lk_nx ?_) | ((with_reducible refine' dk_ret ?o ?q); (case' o => tb_rel)) | ((with_reducible refine' fq_def ?i ?k); (case' i => tb_rel))))
section
open PySem L2 Den
namespace Lw

theorem t_draw {B : Nat} {p : Pen} {many : Int} (hp : p.Ok B) (hB : B < 1099511627775) (hm : 0 < many ∧ many < 1073741824) :
    Fq (d__law_draw [penO p, .sh (.int many)]) fun r => ∃ (k : Int) (p' : Pen), r = .ret (.sh (.int k)) [penO p', .sh (.int many)] ∧ 0 ≤ k ∧ k < many ∧ p'.Ok (B + 1) := by
  obtain ⟨c, a, d, n, f⟩ := p
  obtain ⟨h1, h2, h3, h4, h5, h6, h7, h8⟩ := hp
  simp only at h1 h2 h3 h4 h5 h6 h7 h8
  unfold d__law_draw
  (repeat' kbo_bools)
  refine ⟨fun h => ?_, fun h => ?_⟩
  · simp only [List.length_map, Bool.and_eq_true, decide_eq_true_eq] at h
    obtain ⟨k, rfl⟩ := Int.eq_ofNat_of_zero_le h2
    have hx := List.getElem?_eq_getElem (l := c) (i := k) (by omega)
    obtain ⟨x, hx'⟩ : ∃ x, x = c[k] := ⟨_, rfl⟩
    rw [← hx'] at hx
    (repeat' kbo_bools)
    refine ⟨fun h10 => ?_, fun h10 => ?_⟩
    · simp only [decide_eq_true_eq] at h10
      have e18 : (10 : Int) ^ Int.toNat 18 = 1000000000000000000 := by decide
      rw [e18] at h10
      (repeat' kbo_bools)
      rw [e18]
      (repeat' kbo_bools)
      refine ⟨fun h9 => ?_, fun h9 => ?_⟩
      · simp only [decide_eq_true_eq] at h9
        (repeat' kbo_bools)
        exact ⟨_, _, rfl, Int.emod_nonneg _ (by omega), Int.emod_lt_of_pos _ hm.1, ⟨h1, by simp only; omega, by simp only; omega, Int.ediv_nonneg (by omega) (by omega), by simp only; omega, by simp only; omega, by simp only; omega, by simp only; omega⟩⟩
      · (repeat' kbo_bools)
        exact ⟨_, _, rfl, Int.emod_nonneg _ (by omega), Int.emod_lt_of_pos _ hm.1, ⟨h1, by simp only; omega, by simp only; omega, by simp only; omega, by simp only; omega, by simp only; omega, by simp only; omega, by simp only; omega⟩⟩
    · (repeat' kbo_bools)
      refine ⟨fun h9 => ?_, fun h9 => ?_⟩
      · simp only [decide_eq_true_eq] at h9
        (repeat' kbo_bools)
        exact ⟨_, _, rfl, Int.emod_nonneg _ (by omega), Int.emod_lt_of_pos _ hm.1, ⟨h1, by simp only; omega, by simp only; omega, Int.ediv_nonneg (by omega) (by omega), by simp only; omega, by simp only; omega, by simp only; omega, by simp only; omega⟩⟩
      · (repeat' kbo_bools)
        exact ⟨_, _, rfl, Int.emod_nonneg _ (by omega), Int.emod_lt_of_pos _ hm.1, ⟨h1, by simp only; omega, by simp only; omega, by simp only; omega, by simp only; omega, by simp only; omega, by simp only; omega, by simp only; omega⟩⟩
  · (repeat' kbo_bools)
    refine ⟨fun h9 => ?_, fun h9 => ?_⟩
    · simp only [decide_eq_true_eq] at h9
      (repeat' kbo_bools)
      exact ⟨_, _, rfl, Int.emod_nonneg _ (by omega), Int.emod_lt_of_pos _ hm.1, ⟨h1, by simp only; omega, by simp only; omega, Int.ediv_nonneg (by omega) (by omega), by simp only; omega, by simp only; omega, by simp only; omega, by simp only; omega⟩⟩
    · (repeat' kbo_bools)
      exact ⟨_, _, rfl, Int.emod_nonneg _ (by omega), Int.emod_lt_of_pos _ hm.1, ⟨h1, by simp only; omega, by simp only; omega, by simp only; omega, by simp only; omega, by simp only; omega, by simp only; omega, by simp only; omega⟩⟩
theorem t_pen {ns : List Int} (hn : ns.length ≤ 63) : Fq (d__law_pen [.sh (.wls (ns.map .int))]) fun r => ∃ p : Pen, r = .ret (penO p) [.sh (.wls (ns.map .int))] ∧ p.Ok 0 := by
  unfold d__law_pen
  (repeat' kbo_bools)
  refine pws_for (fun rest σ => ∃ (f : Int) (y : Option O) (qs : List Int), rest = qs.map D.int ∧ σ = [some (.sh (.wls (ns.map .int))), some (.sh (.int f)), y] ∧ 0 ≤ f ∧ f < 2147483648) (by tb_rel) ⟨11, none, ns, rfl, rfl, by omega, by omega⟩ (fun d rest σ h => ?_) (fun σ h => ?_)
  · obtain ⟨f, y, qs, e, rfl, f0, f1⟩ := h
    match qs, e with
    | x :: qs, e =>
      simp only [List.map_cons, List.cons.injEq] at e
      obtain ⟨rfl, rfl⟩ := e
      refine ⟨_, by tb_rel, ?_⟩
      (repeat' kbo_bools)
      exact ⟨_, _, qs, rfl, rfl, Int.emod_nonneg _ (by omega), by have := Int.emod_lt_of_pos (f * 101 + x) (by omega : (0 : Int) < 1000000241); omega⟩
  · obtain ⟨f, y, qs, e, rfl, f0, f1⟩ := h
    (repeat' kbo_bools)
    exact ⟨_, rfl, ⟨hn, by simp only; omega, by simp only; omega, by simp only; omega, by simp only; omega, by simp only; omega, f0, f1⟩⟩
theorem t_pick {B : Nat} {p : Pen} {S : O} {ds : List D} (hp : p.Ok B) (hB : B < 1099511627775) (h0 : ds ≠ []) (h1 : ds.length < 1000000) (hL : gLen S = some (.sh (.int ds.length))) (hx : ∀ (k : Nat) (d : D), ds[k]? = some d → gIx S (.sh (.int (k : Int))) = some (.sh d)) :
    Fq (d__law_pick [penO p, S]) fun r => ∃ (k : Nat) (d : D) (p' : Pen), r = .ret (.sh d) [penO p', S] ∧ ds[k]? = some d ∧ p'.Ok (B + 1) := by
  have := List.length_pos_iff.mpr h0
  obtain ⟨k, p', e, k0, k1, hp'⟩ := t_draw (many := (ds.length : Int)) hp hB (by omega)
  obtain ⟨k, rfl⟩ := Int.eq_ofNat_of_zero_le k0
  have hk := List.getElem?_eq_getElem (l := ds) (i := k) (by omega)
  have hx' := hx k _ hk
  unfold d__law_pick
  (repeat' kbo_bools)
  exact ⟨k, _, p', rfl, hk, hp'⟩
theorem t_shuf {B : Nat} {p : Pen} {S : O} {ds : List D} (hp : p.Ok B) (hB : B + ds.length < 1099511627775) (h1 : ds.length < 100000) (hS : gList S = some (oL ds)) (hL : gLen S = some (.sh (.int ds.length))) :
    Fq (d__law_shuffled [penO p, S]) fun r => ∃ (es : List D) (p' : Pen), r = .ret (oL es) [penO p', S] ∧ es.Perm ds ∧ p'.Ok (B + ds.length) := by
  unfold d__law_shuffled
  (repeat' kbo_bools)
  refine pws_for (fun rest σ => ∃ (p : Pen) (y : Option O) (left found : List D), σ = [some (penO p), some S, y, some (oL left), some (oL found)] ∧ (found ++ left).Perm ds ∧ left.length = rest.length ∧ p.Ok (B + found.length)) (by tb_rel) ⟨p, none, ds, [], rfl, by simp, by simp [rngD], hp⟩ (fun d rest σ h => ?_) (fun σ h => ?_)
  · obtain ⟨p, y, left, found, rfl, hperm, hl, hp⟩ := h
    have hlen := hperm.length_eq
    rw [List.length_append] at hlen
    rw [List.length_cons] at hl
    obtain ⟨k, p', e, k0, k1, hp'⟩ := t_draw (many := (left.length : Int)) hp (by omega) (by omega)
    obtain ⟨k, rfl⟩ := Int.eq_ofNat_of_zero_le k0
    have hk := List.getElem?_eq_getElem (l := left) (i := k) (by omega)
    refine ⟨_, by tb_rel, ?_⟩
    (repeat' kbo_bools)
    · refine ⟨p', _, left.eraseIdx k, found ++ [left[k]], rfl, ?_, by rw [List.length_eraseIdx, if_pos (by omega)]; omega, ?_⟩
      · have pm : (left[k] :: left.eraseIdx k).Perm left := by
          rw [List.eraseIdx_eq_take_drop_succ]
          refine (List.perm_middle.symm).trans ?_
          rw [← List.drop_eq_getElem_cons (by omega), List.take_append_drop]
        rw [List.append_assoc]
        exact ((pm.append_left found).trans hperm)
      · rw [List.length_append]; exact hp'.mono (by simp; omega)
  · obtain ⟨p, y, left, found, rfl, hperm, hl, hp⟩ := h
    have hl0 : left = [] := List.length_eq_zero_iff.mp hl
    subst hl0
    rw [List.append_nil] at hperm
    (repeat' kbo_bools)
    exact ⟨found, p, rfl, hperm, by rw [← hperm.length_eq]; exact hp⟩
end Lw
end
end
section
set_option maxHeartbeats 0
open PySem L2 Den
local macro_rules | `(tactic| infer_instance) => `(tactic| (((with_reducible show Sz _); unfold Sz; first | (with_reducible assumption) | ((with_reducible refine' Sz.go ?_); with_reducible assumption))))
local macro_rules | `(tactic| fold_depth) => `(tactic| (first | ((with_reducible show At _ _ _); first | (with_reducible exact at0) | (with_reducible exact at1) | (with_reducible exact at2)) | ((with_reducible show St _ _ _ _); first | (with_reducible exact st1)) | ((with_reducible show Fu _ _); first | (with_reducible exact fu0) | (with_reducible exact fu1) | (with_reducible exact fu2))))
local macro_rules | `(tactic| keq_rows) => `(tactic| (first | (with_reducible rfl) | (with_reducible assumption) | (simp only [Den.isNon, Den.isBl, List.length_cons, List.length_nil, Nat.reduceAdd, Nat.zero_add, Int.cast_ofNat_Int, Int.reduceEq, Int.reduceLT, Int.reduceLE, Int.reduceNeg, decide_true, decide_false, Bool.not_true, Bool.not_false, Bool.and_true, Bool.true_and, Bool.and_false, Bool.false_and, Bool.or_true, Bool.true_or, Bool.or_false, Bool.false_or, List.isEmpty_nil, List.isEmpty_cons, reduceCtorEq, List.map_cons, List.map_nil]; done)))
local macro_rules | `(tactic| tb_start) => `(tactic| (first | ((with_reducible show _ = _); first | (with_reducible assumption) | ((with_reducible show gIx _ _ = _); first | (with_reducible refine' op_ixC ?_ ?_)) | ((with_reducible show gLen _ = _); first | (with_reducible refine' len_C ?_)) | ((with_reducible show gLt _ _ = _); first | (with_reducible refine' op_ltI)) | ((with_reducible show gLe _ _ = _); first | (with_reducible refine' op_leI)) | ((with_reducible show gIn _ _ = _); first | (with_reducible refine' op_in ?_)) | ((with_reducible show gIsN _ = _); first | (with_reducible refine' op_isN)) | ((with_reducible show gIsi _ _ = _); first | ((with_reducible show gIsi "int" _ = _); first | (with_reducible refine' isi_non_int) | (with_reducible refine' isi_bl_int) | (with_reducible refine' isi_int_int) | (with_reducible refine' isi_str_int) | (with_reducible refine' isi_tup_int) | (with_reducible refine' isi_lst_int) | (with_reducible refine' isi_wls_int) | (with_reducible refine' isi_ktp_int) | (with_reducible refine' isi_dic_int) | (with_reducible refine' isi_dit_int)) | ((with_reducible show gIsi "bool" _ = _); first | (with_reducible refine' isi_bl_bool) | (with_reducible refine' isi_int_bool)) | ((with_reducible show gIsi "str" _ = _); first | (with_reducible refine' isi_non_str) | (with_reducible refine' isi_bl_str) | (with_reducible refine' isi_int_str) | (with_reducible refine' isi_str_str) | (with_reducible refine' isi_tup_str) | (with_reducible refine' isi_lst_str) | (with_reducible refine' isi_wls_str) | (with_reducible refine' isi_ktp_str) | (with_reducible refine' isi_dic_str) | (with_reducible refine' isi_dit_str))) | (with_reducible refine' all_L) | (with_reducible refine' stT))))
local macro_rules | `(tactic| keq_hits) => `(tactic| (first | ((with_reducible show _ = _); first | ((with_reducible show inG _ _ = _); first | (with_reducible refine' in_cs)))))
local macro_rules | `(tactic| kat_tups) => `(tactic| ((with_reducible show (_ : Prop)); first | ((with_reducible show Ev _ _ _ _); first | (with_reducible exact ev_c) | ((with_reducible refine' ev_var ?_); fold_depth) | (with_reducible refine' ev_op2 ?_ ?_) | (with_reducible refine' ev_op1 ?_ ?_) | (with_reducible refine' ev_andv ?_ ?_) | (with_reducible refine' ev_orv ?_ ?_) | (with_reducible refine' ev_chain ?_ ?_ ?_ ?_) | (with_reducible refine' ev_lcY ?_ ?_ ?_ ?_ ?_ ?_ ?_ ?_)) | ((with_reducible show EvT _ _ _ _); first | (with_reducible refine' evt_b ?_) | (with_reducible refine' evt_not ?_) | (with_reducible refine' evt_or ?_ ?_)) | ((with_reducible show EvO _ _ _ _); first | (with_reducible exact evo_0) | (with_reducible refine' evo_x ?_ ?_) | (with_reducible refine' evo_p ?_ ?_ ?_)) | ((with_reducible show EvI _ _ _ _); first | (with_reducible refine' evi_it ?_ ?_)) | ((with_reducible show Fz _ _); first | (with_reducible exact fz_1)) | ((with_reducible show ItR _ _); first | (with_reducible exact itr_s)) | ((with_reducible show Tg _ _ _ _); first | (with_reducible refine' tg_n ?_)) | ((with_reducible show Mp _ _ _); first | (with_reducible exact mp_map)) | ((with_reducible show Clr _ _ _); first | (with_reducible exact clr_0) | (with_reducible refine' clr_c ?_ ?_)) | ((with_reducible show OrR _ _ _ _ _); first | ((with_reducible refine' orr_t ?b); (case b => keq_rows)) | ((with_reducible refine' orr_f ?b ?_); (case b => keq_rows)) | (with_reducible refine' orr_g ?_)) | ((with_reducible show AndV _ _ _ _ _); first | (with_reducible refine' andv_g ?_)) | ((with_reducible show OrV _ _ _ _ _); first | ((with_reducible refine' orv_t ?b); (case b => keq_rows)) | ((with_reducible refine' orv_f ?b ?_); (case b => keq_rows))) | ((with_reducible show ChR _ _ _ _ _ _ _); first | ((with_reducible refine' ch_f ?b); (case b => keq_rows)) | (with_reducible refine' ch_g ?_ ?_)) | ((with_reducible show Ini _ _ _ _); first | (with_reducible exact ini_0) | (with_reducible refine' ini_t ?_) | (with_reducible refine' ini_n ?_)) | ((with_reducible show Outs _ _ _ _); first | (with_reducible exact outs_0) | (with_reducible refine' outs_t ?_)) | (fold_depth) | ((with_reducible show (_ : Prop)); with_reducible intro _) | (infer_instance) | (tb_start) | (keq_hits)))
local macro_rules | `(tactic| tb_rel) => `(tactic| (first | (fail_if_success (with_reducible show (_ : Prop))) | (kat_tups; all_goals tb_rel)))
local macro_rules | `(tactic| kbo_bools) => `(tactic| (first | ((with_reducible refine' pws_if ?e ?k); (case' e => tb_rel); (case' k => first | ((with_reducible refine' ifr_t ?b ?k2); (case b => keq_rows)) | (skip))) | ((with_reducible refine' pws_ret ?e ?k); (case' e => tb_rel)) | ((with_reducible refine' pw_ret ?e ?k); (case' e => tb_rel)) | (with_reducible refine' pws_nx ?_) | ((with_reducible refine' dk_ret ?o ?q); (case' o => tb_rel)) | ((with_reducible refine' eq_def ?i ?k); (case' i => tb_rel))))
section
open PySem L2 Den
namespace Lw

theorem t_is_name {d : D} (h : Kn d) (hz : ∀ z, d = .str z → z.length ≤ 16000000) : d_is_name [.sh d] = .ret (.sh (.bl (isN d))) [.sh d] := by
  unfold d_is_name
  cases d with
  | str z =>
    have hl := hz z rfl
    by_cases h1 : 1 ≤ z.length
    · obtain ⟨c, r, hcr⟩ := len12 h1
      have hx : atI z.cps.toList 0 = some c := by rw [hcr]; exact atI_0 c r
      have e1 := txt_name hcr
      have e2 := nmB_eq hcr
      (repeat' kbo_bools)
      refine ⟨fun h => ?_, fun h => ?_⟩
      · (repeat' kbo_bools)
        show FRes.ret (.sh (.bl false)) _ = .ret (.sh (.bl (nmB z))) _
        congr 3
        rw [e2, ← e1]
        simp only [Bool.or_eq_true, Bool.not_eq_true', Bool.and_eq_false_iff, decide_eq_false_iff_not] at h
        rcases h with (h | h) | h
        · omega
        · rw [decide_eq_false (by omega)]; rfl
        · rw [h]; simp
      · simp only [Bool.or_eq_false_iff, Bool.not_eq_false', Bool.and_eq_true, decide_eq_true_eq] at h
        (repeat' kbo_bools)
        show FRes.ret (.sh (.bl _)) _ = .ret (.sh (.bl (nmB z))) _
        congr 3
        rw [e2, ← e1, h.2, decide_eq_true (by omega)]
        rfl
    · have hb : decide ((1 : Int) ≤ (z.length : Int)) = false := decide_eq_false (by omega)
      (repeat' kbo_bools)
      show FRes.ret (.sh (.bl false)) _ = .ret (.sh (.bl (nmB z))) _
      rw [nmB_0 h1]
  | obj c fs => obtain ⟨t, e⟩ := h; cases e
  | xd fs => obtain ⟨t, e⟩ := h; cases e
  | _ => (repeat' kbo_bools) <;> rfl
theorem t_law_is_name {d : D} (h : Kn d) (hz : ∀ z, d = .str z → z.length ≤ 16000000) : d__law_is_name [.sh d] = .ret (.sh (.bl (isN d))) [.sh d] := by
  unfold d__law_is_name
  cases d with
  | str z =>
    have hl := hz z rfl
    by_cases h1 : 1 ≤ z.length
    · obtain ⟨c, r, hcr⟩ := len12 h1
      have hx : atI z.cps.toList 0 = some c := by rw [hcr]; exact atI_0 c r
      have e2 := nmB_eq hcr
      have hn : gNotIn (.sh (.str ⟨#[c]⟩)) (.sh (.str "abcdefghijklmnopqrstuvwxyz")) = some (.sh (.bl (!lowC c))) := by rw [← al_has]; rfl
      have hl2 : Sz (z.cps.toList.length ≤ 16000000) := by rw [← len_cps]; exact hl
      (repeat' kbo_bools)
      refine ⟨fun h => ?_, fun h => ?_⟩
      · (repeat' kbo_bools)
        show FRes.ret (.sh (.bl false)) _ = .ret (.sh (.bl (nmB z))) _
        congr 3
        rw [e2]
        simp only [Bool.or_eq_true, Bool.not_eq_true', Bool.and_eq_false_iff, decide_eq_false_iff_not] at h
        rcases h with (h | h) | h
        · omega
        · rw [decide_eq_false (by omega)]; rfl
        · rw [h]; simp
      · simp only [Bool.or_eq_false_iff, Bool.not_eq_false', Bool.and_eq_true, decide_eq_true_eq] at h
        (repeat' kbo_bools)
        show FRes.ret (.sh (.bl _)) _ = .ret (.sh (.bl (nmB z))) _
        have ea : (fun x => decide (x ∈ (Str.ofString "abcdefghijklmnopqrstuvwxyz0123456789").cps.toList)) = nmC := funext al36_has
        congr 3
        rw [e2, h.2, decide_eq_true (by omega), ea]
        rfl
    · have hb : decide ((1 : Int) ≤ (z.length : Int)) = false := decide_eq_false (by omega)
      (repeat' kbo_bools)
      show FRes.ret (.sh (.bl false)) _ = .ret (.sh (.bl (nmB z))) _
      rw [nmB_0 h1]
  | obj c fs => obtain ⟨t, e⟩ := h; cases e
  | xd fs => obtain ⟨t, e⟩ := h; cases e
  | _ => (repeat' kbo_bools) <;> rfl
theorem t_is_whole {d : D} {lo : Int} (h : Kn d) : d_is_whole [.sh d, .sh (.int lo), .sh .non] = .ret (.sh (.bl (whB lo d))) [.sh d, .sh (.int lo), .sh .non] := by
  unfold d_is_whole
  cases d with
  | int i =>
    (repeat' kbo_bools)
    refine ⟨fun h => ?_, fun h => ?_⟩
    · (repeat' kbo_bools)
      show FRes.ret (.sh (.bl false)) _ = .ret (.sh (.bl (decide (lo ≤ i)))) _
      simp only [decide_eq_true_eq] at h
      rw [decide_eq_false (by omega)]
    · (repeat' kbo_bools)
      show FRes.ret (.sh (.bl true)) _ = .ret (.sh (.bl (decide (lo ≤ i)))) _
      simp only [decide_eq_false_iff_not] at h
      rw [decide_eq_true (by omega)]
  | obj c fs => obtain ⟨t, e⟩ := h; cases e
  | xd fs => obtain ⟨t, e⟩ := h; cases e
  | _ => (repeat' kbo_bools) <;> rfl
theorem t_is_whole2 {d : D} {lo hi : Int} (h : Kn d) : d_is_whole [.sh d, .sh (.int lo), .sh (.int hi)] = .ret (.sh (.bl (whB2 lo hi d))) [.sh d, .sh (.int lo), .sh (.int hi)] := by
  unfold d_is_whole
  cases d with
  | int i =>
    (repeat' kbo_bools)
    refine ⟨fun h => ?_, fun h => ?_⟩
    · (repeat' kbo_bools)
      show FRes.ret (.sh (.bl false)) _ = .ret (.sh (.bl (decide (lo ≤ i) && decide (i ≤ hi)))) _
      simp only [decide_eq_true_eq] at h
      rw [decide_eq_false (by omega)]
      rfl
    · (repeat' kbo_bools)
      show FRes.ret (.sh (.bl _)) _ = .ret (.sh (.bl (decide (lo ≤ i) && decide (i ≤ hi)))) _
      simp only [decide_eq_false_iff_not] at h
      rw [decide_eq_true (by omega : lo ≤ i)]
      rfl
  | obj c fs => obtain ⟨t, e⟩ := h; cases e
  | xd fs => obtain ⟨t, e⟩ := h; cases e
  | _ => (repeat' kbo_bools) <;> rfl
end Lw
end
end
section
set_option maxHeartbeats 0
open PySem L2 Den
local macro_rules | `(tactic| infer_instance) => `(tactic| (((with_reducible show Sz _); unfold Sz; first | (omega) | (simp only [List.length_map, List.length_append, List.length_cons, List.length_nil, List.length_reverse, List.length_range, List.length_take, List.length_drop, len_app, len1]; omega))))
local macro_rules | `(tactic| fold_depth) => `(tactic| (first | ((with_reducible show At _ _ _); first | (with_reducible exact at0) | (with_reducible exact at1) | (with_reducible exact at2) | (with_reducible exact at4)) | ((with_reducible show St _ _ _ _); first | (with_reducible exact st0) | (with_reducible exact st2) | (with_reducible exact st3) | (with_reducible exact st4)) | ((with_reducible show Fu _ _); first | (with_reducible exact fu0) | (with_reducible exact fu1) | (with_reducible exact fu2)) | ((with_reducible show Em _ _); first | (with_reducible exact em0))))
local macro_rules | `(tactic| keq_rows) => `(tactic| (fail))
local macro_rules | `(tactic| tb_start) => `(tactic| (first | ((with_reducible show _ = _); first | (with_reducible assumption) | ((with_reducible show gLen _ = _); first | (with_reducible refine' len_C ?_)) | ((with_reducible show gAdd _ _ = _); first | (with_reducible refine' op_addI) | (with_reducible refine' op_addS ?_)) | ((with_reducible show gSl _ _ _ = _); first | (with_reducible refine' sl_C ?_)))))
local macro_rules | `(tactic| keq_hits) => `(tactic| (fail))
local macro_rules | `(tactic| kat_tups) => `(tactic| ((with_reducible show (_ : Prop)); first | ((with_reducible show Ev _ _ _ _); first | (with_reducible assumption) | (with_reducible exact ev_c) | ((with_reducible refine' ev_var ?_); fold_depth) | (with_reducible refine' ev_op2 ?_ ?_) | (with_reducible refine' ev_op1 ?_ ?_) | (with_reducible refine' ev_call ?_ ?_ ?_ ?_ ?_) | (with_reducible refine' ev_slp ?_ ?_ ?_ ?_ ?_)) | ((with_reducible show EvO _ _ _ _); first | (with_reducible exact evo_0) | (with_reducible refine' evo_x ?_ ?_) | (with_reducible refine' evo_p ?_ ?_ ?_)) | ((with_reducible show EvA _ _ _ _); first | (with_reducible exact eva_0) | (with_reducible refine' eva_x ?_ ?_) | (with_reducible refine' eva_p ?_ ?_)) | ((with_reducible show EvP _ _ _ _); first | (with_reducible exact evp_0) | (with_reducible refine' evp_1 ?_ ?_)) | ((with_reducible show EvI _ _ _ _); first | (with_reducible refine' evi_rng ?_ ?_ ?_)) | ((with_reducible show Own _); first | (with_reducible exact own_pen)) | ((with_reducible show Tak _ _ _ _); first | (with_reducible exact tak_0) | (with_reducible refine' tak_o ?_) | ((with_reducible refine' tak_s ?a ?_); (case a => fold_depth)) | (with_reducible refine' tak_p ?_ ?_ ?_ ?_)) | ((with_reducible show Giv _ _ _ _); first | (with_reducible exact giv_0) | (with_reducible refine' giv_o ?_) | ((with_reducible refine' giv_s ?a ?_); (case a => fold_depth)) | (with_reducible refine' giv_p ?_ ?_ ?_)) | ((with_reducible show Nl _ _); first | (with_reducible exact nl_1a)) | ((with_reducible show Lis _ _); first | (with_reducible exact lis_0) | (with_reducible refine' lis_s ?_)) | ((with_reducible show Rn _ _); first | (with_reducible exact rn_nat) | (with_reducible refine' rn_of ?_)) | ((with_reducible show Tg _ _ _ _); first | (with_reducible refine' tg_n ?_)) | ((with_reducible show Clr _ _ _); first | (with_reducible exact clr_0) | (with_reducible refine' clr_c ?_ ?_)) | ((with_reducible show Ini _ _ _ _); first | (with_reducible exact ini_0) | (with_reducible refine' ini_t ?_) | (with_reducible refine' ini_n ?_)) | ((with_reducible show Outs _ _ _ _); first | (with_reducible exact outs_0) | (with_reducible refine' outs_t ?_)) | (fold_depth) | ((with_reducible show _ = FRes.ret _ _); first | (with_reducible assumption)) | (infer_instance) | (tb_start)))
local macro_rules | `(tactic| tb_rel) => `(tactic| (first | (fail_if_success (with_reducible show (_ : Prop))) | (kat_tups; all_goals tb_rel)))
local macro_rules | `(tactic| kbo_bools) => `(tactic| (first | ((with_reducible refine' pws_set ?e ?s ?k); (case' e => tb_rel); (case' s => tb_rel)) | ((with_reducible refine' pw_ret ?e ?k); (case' e => tb_rel)) | (with_reducible refine' pw_nx ?_) | (with_reducible refine' pw_end (sSet _ _) ?_) | (with_reducible refine' lk_nx ?_) | ((with_reducible refine' dk_ret ?o ?q); (case' o => tb_rel)) | ((with_reducible refine' fq_def ?i ?k); (case' i => tb_rel))))
section
open PySem L2 Den
namespace Lw

theorem t_name {B i : Nat} {p : Pen} (hp : p.Ok B) (hB : B + 10 < 1099511627775) (hi : i ≤ 9) : Fq (d__law_name [penO p, .sh (.int (i : Int))]) fun r => ∃ (x : Str) (p' : Pen), r = .ret (.sh (.str x)) [penO p', .sh (.int (i : Int))] ∧ Nm i x ∧ p'.Ok (B + 10) := by
  obtain ⟨k, p1, e1, k0, k1, hp1⟩ := t_draw (many := 8) hp (by omega) (by omega)
  obtain ⟨k, rfl⟩ := Int.eq_ofNat_of_zero_le k0
  unfold d__law_name
  (repeat' kbo_bools)
  refine pws_for (fun rest σ => ∃ (p : Pen) (y : Option O) (z : Str), σ = [some (penO p), some (.sh (.int (i : Int))), some (.sh (.str z)), y, none] ∧ Lt z ∧ z.length + rest.length = 1 + k ∧ p.Ok (B + 1 + z.length)) (by tb_rel) ⟨p1, none, "", rfl, lt_nil, by rw [rngD, List.length_map, List.length_range]; show 0 + _ = _; omega, hp1⟩ (fun d rest σ h => ?_) (fun σ h => ?_)
  · obtain ⟨p, y, z, rfl, hz, hl, hp⟩ := h
    rw [List.length_cons] at hl
    obtain ⟨j, p', e, j0, j1, hp'⟩ := t_draw (many := 26) hp (by omega) (by omega)
    obtain ⟨j, rfl⟩ := Int.eq_ofNat_of_zero_le j0
    obtain ⟨c, hc, c1, c2⟩ := gIx_al' (k := j) (by omega)
    refine ⟨_, by tb_rel, ?_⟩
    (repeat' kbo_bools)
    exact ⟨p', _, _, rfl, lt_app hz c1 c2, by rw [len_app, len1]; omega, by rw [len_app, len1]; exact hp'⟩
  · obtain ⟨p, y, z, rfl, hz, hl, hp⟩ := h
    rw [List.length_nil] at hl
    obtain ⟨j, p', e, j0, j1, hp'⟩ := t_draw (many := (z.length : Int)) hp (by omega) (by omega)
    obtain ⟨j, rfl⟩ := Int.eq_ofNat_of_zero_le j0
    have hs := gStr_small hi
    have hd := dg_len hi
    obtain ⟨la, lb⟩ := cut_split (j + 1) hz
    have na : (cutS z none (some ((j + 1 : Nat) : Int))).length = j + 1 := by rw [cut_len_to]; omega
    have nb := cut_len_from z (j + 1)
    (repeat' kbo_bools)
    exact ⟨_, p', rfl, ⟨_, _, rfl, la, lb, by omega, by omega⟩, hp'.mono (by omega)⟩
theorem t_names {B n : Nat} {p : Pen} (hp : p.Ok B) (hB : B + 2000 < 1099511627775) (hn : 1 ≤ n ∧ n ≤ 10) : Fq (d__law_names [penO p, .sh (.int (n : Int))]) fun r => ∃ (xs : List Str) (p' : Pen), r = .ret (oL (xs.map D.str)) [penO p', .sh (.int (n : Int))] ∧ xs.length = n ∧ xs.Nodup ∧ (∀ x ∈ xs, nmB x = true) ∧ p'.Ok (B + 11 * n) := by
  unfold d__law_names
  obtain ⟨vs, p1, e1, hl, hv, hp1⟩ := lc_pen (ge := aCall 2 [.pl 0, .pl 2] [] d__law_name) (c := 10) (xs := List.range n) (em := fun i : Nat => .int (i : Int)) (Pv := fun (i : Nat) v => ∃ x, v = .str x ∧ Nm i x) (fun p => [some (penO p), some (.sh (.int (n : Int))), none]) (fun (i : Nat) p => [some (penO p), some (.sh (.int (n : Int))), some (.sh (.int (i : Int)))]) (src := aRng1 (aVar 1)) (vs := [2]) (tg := aN 2) (ρ := [some (penO p), some (.sh (.int (n : Int))), none]) (p := p) (B := B) (by tb_rel) mp_rng0 (by simp; omega) (fun i p _ => by tb_rel) (fun i p _ => by tb_rel) (fun _ => rfl) (fun _ _ => rfl) hp (by simp; omega) (fun i p B hi hp hB => by
      obtain ⟨x, p', e, hx, hp'⟩ := t_name (i := i) hp (by omega) (by have := List.mem_range.mp hi; omega)
      exact ⟨_, _, p', by tb_rel, fz_1, ⟨x, rfl, hx⟩, hp'⟩)
  rw [List.length_range] at hl hp1
  obtain ⟨w, rfl⟩ : ∃ w : List Str, vs = w.map D.str := by
    clear e1 hp1
    refine strs_any fun v hm => ?_
    obtain ⟨k, hk⟩ := List.getElem?_of_mem hm
    have hk2 : k < n := by have := (List.getElem?_eq_some_iff.mp hk).1; omega
    obtain ⟨x, ex, _⟩ := hv k k v (List.getElem?_range hk2) hk
    exact ⟨x, ex⟩
  rw [List.length_map] at hl
  have hw : ∀ k x, w[k]? = some x → Nm k x := fun k x hk => by
    have hk2 : k < n := by have := (List.getElem?_eq_some_iff.mp hk).1; omega
    obtain ⟨y, e2, hy⟩ := hv k k (.str x) (List.getElem?_range hk2) (by rw [List.getElem?_map, hk]; rfl)
    cases e2
    exact hy
  obtain ⟨es, p2, e2, pm, hp2⟩ := t_shuf (S := oL (w.map D.str)) (ds := w.map D.str) hp1 (by rw [List.length_map]; omega) (by rw [List.length_map]; omega) list_L len_L
  obtain ⟨xs, rfl, px⟩ := strs_perm pm
  (repeat' kbo_bools)
  refine ⟨xs, p2, rfl, by rw [px.length_eq, hl], px.nodup_iff.mpr (nmodup (by omega) hw), fun x hx => ?_, hp2.mono (by rw [List.length_map]; omega)⟩
  obtain ⟨k, hk⟩ := List.getElem?_of_mem (px.mem_iff.mp hx)
  exact nm_name (by have := (List.getElem?_eq_some_iff.mp hk).1; omega) (hw k x hk)
end Lw
end
end
section
set_option maxHeartbeats 0
open PySem L2 Den
local macro_rules | `(tactic| infer_instance) => `(tactic| (((with_reducible show Sz _); unfold Sz; first | (omega))))
local macro_rules | `(tactic| fold_depth) => `(tactic| (first | ((with_reducible show At _ _ _); first | (with_reducible exact at0) | (with_reducible exact at1) | (with_reducible exact at2) | (with_reducible exact at3)) | ((with_reducible show St _ _ _ _); first | (with_reducible exact st2) | (with_reducible exact st3)) | ((with_reducible show Fu _ _); first | (with_reducible exact fu0) | (with_reducible exact fu1) | (with_reducible exact fu2) | (with_reducible exact fu3))))
local macro_rules | `(tactic| keq_rows) => `(tactic| (first | (with_reducible rfl) | (with_reducible assumption)))
local macro_rules | `(tactic| tb_start) => `(tactic| (first | ((with_reducible show _ = _); first | (with_reducible assumption) | ((with_reducible show gLen _ = _); first | (with_reducible refine' len_T) | (with_reducible refine' len_S)) | ((with_reducible show gEq _ _ = _); first | (with_reducible refine' op_eq ?_)) | ((with_reducible show gNe _ _ = _); first | (with_reducible refine' op_ne ?_)) | ((with_reducible show gIsi _ _ = _); first | ((with_reducible show gIsi "bool" _ = _); first | (with_reducible refine' isi_non_bool) | (with_reducible refine' isi_bl_bool) | (with_reducible refine' isi_int_bool) | (with_reducible refine' isi_str_bool) | (with_reducible refine' isi_dic_bool)) | ((with_reducible show gIsi "tuple" _ = _); first | (with_reducible refine' isi_tup_tuple) | (with_reducible refine' isi_lst_tuple))) | ((with_reducible show gIsi2 _ _ _ = _); first | (with_reducible refine' isi2_non) | (with_reducible refine' isi2_bl) | (with_reducible refine' isi2_int) | (with_reducible refine' isi2_str) | (with_reducible refine' isi2_tup) | (with_reducible refine' isi2_lst) | (with_reducible refine' isi2_dic)) | (with_reducible refine' op_eqA ?_ ?_) | (with_reducible refine' all_L))))
local macro_rules | `(tactic| keq_hits) => `(tactic| (first | ((with_reducible show _ = _); first | ((with_reducible show gEqD _ _ = _); first | (with_reducible refine' eq_ii) | (with_reducible refine' eq_ss) | (with_reducible refine' eq_bb) | (with_reducible refine' eq_nn)) | (with_reducible refine' dicE_i) | (with_reducible refine' dicE_s) | (with_reducible refine' dicE_n) | (with_reducible refine' dicE_b))))
local macro_rules | `(tactic| kat_tups) => `(tactic| ((with_reducible show (_ : Prop)); first | ((with_reducible show Ev _ _ _ _); first | ((with_reducible refine' ev_var ?_); fold_depth) | (with_reducible refine' ev_op2 ?_ ?_) | (with_reducible refine' ev_op1 ?_ ?_) | (with_reducible refine' ev_call ?_ ?_ ?_ ?_ ?_) | (with_reducible refine' ev_lcY ?_ ?_ ?_ ?_ ?_ ?_ ?_ ?_)) | ((with_reducible show EvT _ _ _ _); first | (with_reducible refine' evt_b ?_) | (with_reducible refine' evt_and ?_ ?_) | (with_reducible refine' evt_or ?_ ?_)) | ((with_reducible show EvO _ _ _ _); first | (with_reducible exact evo_0) | (with_reducible refine' evo_x ?_ ?_) | (with_reducible refine' evo_p ?_ ?_ ?_)) | ((with_reducible show EvA _ _ _ _); first | (with_reducible exact eva_0) | (with_reducible refine' eva_p ?_ ?_)) | ((with_reducible show EvI _ _ _ _); first | (with_reducible refine' evi_zip ?_ ?_ ?_)) | ((with_reducible show Fz _ _); first | (with_reducible exact fz_1)) | ((with_reducible show Tak _ _ _ _); first | (with_reducible exact tak_0) | ((with_reducible refine' tak_s ?a ?_); (case a => fold_depth))) | ((with_reducible show Giv _ _ _ _); first | (with_reducible exact giv_0) | ((with_reducible refine' giv_s ?a ?_); (case a => fold_depth))) | ((with_reducible show ZipR _ _ _); first | (with_reducible exact zr_t) | (with_reducible exact zr_l)) | ((with_reducible show Lis _ _); first | (with_reducible exact lis_0) | (with_reducible refine' lis_s ?_)) | ((with_reducible show Tg _ _ _ _); first | (with_reducible refine' tg_n ?_) | (with_reducible refine' tg_u ?_)) | ((with_reducible show Tgs _ _ _ _); first | (with_reducible exact tgs_0) | (with_reducible refine' tgs_c ?_ ?_)) | ((with_reducible show Mp _ _ _); first | (with_reducible exact mp_zip_self)) | ((with_reducible show Clr _ _ _); first | (with_reducible exact clr_0) | (with_reducible refine' clr_c ?_ ?_)) | ((with_reducible show AndR _ _ _ _ _); first | ((with_reducible refine' andr_f ?b); (case b => keq_rows)) | ((with_reducible refine' andr_t ?b ?_); (case b => keq_rows))) | ((with_reducible show OrR _ _ _ _ _); first | ((with_reducible refine' orr_f ?b ?_); (case b => keq_rows))) | ((with_reducible show Ini _ _ _ _); first | (with_reducible exact ini_0) | (with_reducible refine' ini_t ?_) | (with_reducible refine' ini_n ?_)) | ((with_reducible show Outs _ _ _ _); first | (with_reducible exact outs_0) | (with_reducible refine' outs_t ?_)) | (fold_depth) | ((with_reducible show _ = FRes.ret _ _); first | (with_reducible apply_assumption -exfalso -symm)) | ((with_reducible show (_ : Prop)); with_reducible intro _) | (infer_instance) | (tb_start) | (keq_hits) | ((with_reducible show (_ : Prop)); with_reducible assumption)))
local macro_rules | `(tactic| tb_rel) => `(tactic| (first | (fail_if_success (with_reducible show (_ : Prop))) | (kat_tups; all_goals tb_rel)))
local macro_rules | `(tactic| kbo_bools) => `(tactic| (first | ((with_reducible refine' pws_if ?e ?k); (case' e => tb_rel); (case' k => first | ((with_reducible refine' ifr_t ?b ?k2); (case b => keq_rows)) | ((with_reducible refine' ifr_f ?b ?k2); (case b => keq_rows)))) | ((with_reducible refine' pws_ret ?e ?k); (case' e => tb_rel)) | ((with_reducible refine' pw_ret ?e ?k); (case' e => tb_rel)) | (with_reducible refine' pw_as ?_) | (with_reducible refine' pws_nx ?_) | ((with_reducible refine' dk_ret ?o ?q); (case' o => tb_rel)) | ((with_reducible refine' eq_def ?i ?k); (case' i => tb_rel)) | ((with_reducible show _ = (_ : FRes)); with_reducible rfl)))
section
open PySem L2 Den
namespace Lw

/-- values that are compared with themselves -/
def al : Nat → D → Bool
  | _, .non => true
  | _, .int _ => true
  | _, .bl _ => true
  | _, .str _ => true
  | _, .dic kvs => kvs.isEmpty
  | n + 1, .tup ds => decide (ds.length ≤ 1000) && ds.all (al n)
  | n + 1, .lst ds => decide (ds.length ≤ 1000) && ds.all (al n)
  | _, _ => false
theorem alike_seq {ρ : aF} {ds : List D} (hr : ∀ d ∈ ds, ρ [.sh d, .sh d] = .ret (.sh (.bl true)) [.sh d, .sh d]) (hl : ds.length ≤ 1000) {v : D} (hv : v = .tup ds ∨ v = .lst ds) : b__law_alike ρ [.sh v, .sh v] = .ret (.sh (.bl true)) [.sh v, .sh v] := by
  have e1 : (!decide ((ds.length : Int) = (ds.length : Int))) = false := by simp
  have e2 : (!decide (true = true)) = false := by simp
  have e3 : (!decide (false = false)) = false := by simp
  unfold b__law_alike
  rcases hv with rfl | rfl
  · (repeat' kbo_bools)
    congr 3
    simp
  · (repeat' kbo_bools)
    congr 3
    simp
theorem t_alike : ∀ {n : Nat} {d : D}, al n d = true → d__law_alike (n + 1) [.sh d, .sh d] = .ret (.sh (.bl true)) [.sh d, .sh d] := by
  intro n
  have e2 : (!decide (true = true)) = false := by simp
  have e3 : (!decide (false = false)) = false := by simp
  induction n with
  | zero =>
    intro d h
    rw [d__law_alike]
    cases d with
    | non => unfold b__law_alike; (repeat' kbo_bools)
    | int i => unfold b__law_alike; (repeat' kbo_bools); congr 3; simp
    | bl b => unfold b__law_alike; (repeat' kbo_bools); congr 3; simp
    | str z => unfold b__law_alike; (repeat' kbo_bools); congr 3; simp
    | dic kvs =>
      have : kvs = [] := List.isEmpty_iff.mp (by simpa [al] using h)
      subst this
      have e : gEqA (.sh (.dic [])) (.sh (.dic [])) = some (.sh (.bl true)) := by unfold gEqA; rw [fz]; rfl
      unfold b__law_alike
      (repeat' kbo_bools)
    | _ => simp [al] at h
  | succ n ih =>
    intro d h
    rw [d__law_alike]
    cases d with
    | non => unfold b__law_alike; (repeat' kbo_bools)
    | int i => unfold b__law_alike; (repeat' kbo_bools); congr 3; simp
    | bl b => unfold b__law_alike; (repeat' kbo_bools); congr 3; simp
    | str z => unfold b__law_alike; (repeat' kbo_bools); congr 3; simp
    | dic kvs =>
      have : kvs = [] := List.isEmpty_iff.mp (by simpa [al] using h)
      subst this
      have e : gEqA (.sh (.dic [])) (.sh (.dic [])) = some (.sh (.bl true)) := by unfold gEqA; rw [fz]; rfl
      unfold b__law_alike
      (repeat' kbo_bools)
    | tup ds =>
      simp only [al, Bool.and_eq_true, decide_eq_true_eq, List.all_eq_true] at h
      exact alike_seq (fun d m => ih (h.2 d m)) h.1 (.inl rfl)
    | lst ds =>
      simp only [al, Bool.and_eq_true, decide_eq_true_eq, List.all_eq_true] at h
      exact alike_seq (fun d m => ih (h.2 d m)) h.1 (.inr rfl)
    | _ => simp [al] at h
end Lw
end
end
section
set_option maxHeartbeats 0
open PySem L2 Den
local macro_rules | `(tactic| infer_instance) => `(tactic| (((with_reducible show Sz _); unfold Sz; first | (omega))))
local macro_rules | `(tactic| fold_depth) => `(tactic| (first | ((with_reducible show At _ _ _); first | (with_reducible exact at0)) | ((with_reducible show Fu _ _); first | (with_reducible exact fu0))))
local macro_rules | `(tactic| keq_rows) => `(tactic| (first | (with_reducible rfl) | (with_reducible assumption) | (simp only [Den.isNon, Den.isBl, List.length_cons, List.length_nil, Nat.reduceAdd, Nat.zero_add, Int.cast_ofNat_Int, Int.reduceEq, Int.reduceLT, Int.reduceLE, Int.reduceNeg, decide_true, decide_false, Bool.not_true, Bool.not_false, Bool.and_true, Bool.true_and, Bool.and_false, Bool.false_and, Bool.or_true, Bool.true_or, Bool.or_false, Bool.false_or, List.isEmpty_nil, List.isEmpty_cons, reduceCtorEq, List.map_cons, List.map_nil]; done)))
local macro_rules | `(tactic| tb_start) => `(tactic| (first | ((with_reducible show _ = _); first | ((with_reducible show gIx _ _ = _); first | (with_reducible refine' op_ixT ?_)) | ((with_reducible show gLen _ = _); first | (with_reducible refine' len_T)) | ((with_reducible show gNe _ _ = _); first | (with_reducible refine' op_ne ?_)) | ((with_reducible show gLt _ _ = _); first | (with_reducible refine' op_ltI)) | ((with_reducible show gLe _ _ = _); first | (with_reducible refine' op_leI)) | ((with_reducible show gIsi _ _ = _); first | ((with_reducible show gIsi "int" _ = _); first | (with_reducible refine' isi_non_int) | (with_reducible refine' isi_bl_int) | (with_reducible refine' isi_int_int) | (with_reducible refine' isi_str_int)) | ((with_reducible show gIsi "bool" _ = _); first | (with_reducible refine' isi_bl_bool) | (with_reducible refine' isi_int_bool)) | ((with_reducible show gIsi "tuple" _ = _); first | (with_reducible refine' isi_non_tuple) | (with_reducible refine' isi_bl_tuple) | (with_reducible refine' isi_int_tuple) | (with_reducible refine' isi_str_tuple) | (with_reducible refine' isi_tup_tuple) | (with_reducible refine' isi_lst_tuple))) | (with_reducible refine' op_pow ?_))))
local macro_rules | `(tactic| keq_hits) => `(tactic| (first | ((with_reducible show _ = _); first | ((with_reducible show gEqD _ _ = _); first | (with_reducible refine' eq_ii)) | ((with_reducible show atI _ _ = _); first | (with_reducible refine' ix_lit0) | (with_reducible refine' ix_lit1) | (with_reducible refine' ix_lit2) | (with_reducible refine' ix_lit3)))))
local macro_rules | `(tactic| kat_tups) => `(tactic| ((with_reducible show (_ : Prop)); first | ((with_reducible show Ev _ _ _ _); first | (with_reducible exact ev_c) | ((with_reducible refine' ev_var ?_); fold_depth) | (with_reducible refine' ev_op2 ?_ ?_) | (with_reducible refine' ev_op1 ?_ ?_) | (with_reducible refine' ev_call ?_ ?_ ?_ ?_ ?_) | (with_reducible refine' ev_tv ?_) | (with_reducible refine' ev_andv ?_ ?_) | (with_reducible refine' ev_chain ?_ ?_ ?_ ?_)) | ((with_reducible show EvT _ _ _ _); first | (with_reducible refine' evt_b ?_) | (with_reducible refine' evt_not ?_) | (with_reducible refine' evt_or ?_ ?_)) | ((with_reducible show EvO _ _ _ _); first | (with_reducible exact evo_0) | (with_reducible refine' evo_x ?_ ?_) | (with_reducible refine' evo_p ?_ ?_ ?_)) | ((with_reducible show EvA _ _ _ _); first | (with_reducible exact eva_0) | (with_reducible refine' eva_x ?_ ?_)) | ((with_reducible show Tak _ _ _ _); first | (with_reducible exact tak_0) | (with_reducible refine' tak_o ?_)) | ((with_reducible show Giv _ _ _ _); first | (with_reducible exact giv_0) | (with_reducible refine' giv_o ?_)) | ((with_reducible show Lis _ _); first | (with_reducible exact lis_0) | (with_reducible refine' lis_s ?_)) | ((with_reducible show OrR _ _ _ _ _); first | ((with_reducible refine' orr_t ?b); (case b => keq_rows)) | ((with_reducible refine' orr_f ?b ?_); (case b => keq_rows)) | (with_reducible refine' orr_g ?_)) | ((with_reducible show AndV _ _ _ _ _); first | ((with_reducible refine' andv_f ?b); (case b => keq_rows)) | ((with_reducible refine' andv_t ?b ?_); (case b => keq_rows)) | (with_reducible refine' andv_g ?_)) | ((with_reducible show ChR _ _ _ _ _ _ _); first | (with_reducible refine' ch_g ?_ ?_)) | ((with_reducible show Ini _ _ _ _); first | (with_reducible exact ini_0) | (with_reducible refine' ini_t ?_)) | ((with_reducible show Outs _ _ _ _); first | (with_reducible exact outs_0) | (with_reducible refine' outs_t ?_)) | (fold_depth) | ((with_reducible show _ = FRes.ret _ _); first | (tb_start)) | ((with_reducible show (_ : Prop)); with_reducible intro _) | (infer_instance) | (tb_start) | (keq_hits) | ((with_reducible show (_ : Prop)); with_reducible assumption)))
local macro_rules | `(tactic| tb_rel) => `(tactic| (first | (fail_if_success (with_reducible show (_ : Prop))) | (kat_tups; all_goals tb_rel)))
local macro_rules | `(tactic| kbo_bools) => `(tactic| (first | ((with_reducible refine' pws_if ?e ?k); (case' e => tb_rel); (case' k => first | ((with_reducible refine' ifr_t ?b ?k2); (case b => keq_rows)) | (skip))) | ((with_reducible refine' pws_ret ?e ?k); (case' e => tb_rel)) | ((with_reducible refine' pw_ret ?e ?k); (case' e => tb_rel)) | (with_reducible refine' pws_nx ?_) | ((with_reducible refine' dk_ret ?o ?q); (case' o => tb_rel)) | ((with_reducible refine' eq_def ?i ?k); (case' i => tb_rel)) | ((with_reducible show _ = (_ : FRes)); with_reducible rfl)))
section
open PySem L2 Den
namespace Lw

/-- plain leaves -/
def Lf : D → Prop
  | .non => True
  | .int _ => True
  | .bl _ => True
  | .str z => z.length ≤ 1000
  | _ => False
theorem lf_kn {d : D} (h : Lf d) : Kn d := by
  cases d <;> first | exact ⟨_, rfl⟩ | cases h
theorem lf_z {d : D} (h : Lf d) : ∀ z, d = .str z → z.length ≤ 16000000 := by
  intro z e
  subst e
  exact Nat.le_trans h (by omega)
abbrev MX : Int := 9999999999999999999999999999999999999999
theorem lf_name {d : D} (h : Lf d) : d_is_name [.sh d] = .ret (.sh (.bl (isN d))) [.sh d] := t_is_name (lf_kn h) (lf_z h)
theorem lf_lname {d : D} (h : Lf d) : d__law_is_name [.sh d] = .ret (.sh (.bl (isN d))) [.sh d] := t_law_is_name (lf_kn h) (lf_z h)
theorem lf_whole {d : D} {lo hi : Int} (h : Lf d) : d_is_whole [.sh d, .sh (.int lo), .sh (.int hi)] = .ret (.sh (.bl (whB2 lo hi d))) [.sh d, .sh (.int lo), .sh (.int hi)] := t_is_whole2 (lf_kn h)
theorem lf_number {d : D} (h : Lf d) : d__law_is_number [.sh d] = .ret (.sh (.bl (whB2 0 MX d))) [.sh d] := by
  unfold d__law_is_number
  cases d with
  | int i =>
    (repeat' kbo_bools)
    show FRes.ret (.sh (.bl _)) _ = .ret (.sh (.bl (decide (0 ≤ i) && decide (i ≤ MX)))) _
    congr 3
    have e : (10 : Int) ^ Int.toNat 40 = 10000000000000000000000000000000000000000 := by decide
    rw [e]
    congr 1
    rw [decide_eq_decide]
    show _ ↔ i ≤ 9999999999999999999999999999999999999999
    omega
  | non => (repeat' kbo_bools) <;> rfl
  | bl b => (repeat' kbo_bools) <;> rfl
  | str z => (repeat' kbo_bools) <;> rfl
  | _ => cases h
/-- what a row is -/
def rowB : D → Bool
  | .tup [a, b, c, e] => (isN a && isN c) && (whB2 0 MX b && whB2 0 MX e)
  | _ => false
/-- what may stand in a row's place -/
def RowC (d : D) : Prop := Lf d ∨ (∃ ds, (d = .tup ds ∨ d = .lst ds) ∧ (∀ e ∈ ds, Lf e) ∧ ds.length ≤ 1000)
theorem rowB_len {ds : List D} (h : ¬ ds.length = 4) : rowB (.tup ds) = false := by
  match ds with
  | [] => rfl
  | [_] => rfl
  | [_, _] => rfl
  | [_, _, _] => rfl
  | [_, _, _, _] => exact (h rfl).elim
  | _ :: _ :: _ :: _ :: _ :: _ => rfl
theorem len4 {ds : List D} (h : ds.length = 4) : ∃ a b c e, ds = [a, b, c, e] := by
  match ds with
  | [a, b, c, e] => exact ⟨a, b, c, e, rfl⟩
local macro_rules | `(tactic| tb_start) => `(tactic| with_reducible refine' lf_name ?_)
local macro_rules | `(tactic| tb_start) => `(tactic| with_reducible refine' lf_lname ?_)
local macro_rules | `(tactic| tb_start) => `(tactic| with_reducible refine' lf_whole ?_)
local macro_rules | `(tactic| tb_start) => `(tactic| with_reducible refine' lf_number ?_)
theorem t_plan_row {d : D} (h : RowC d) : d_is_plan_row [.sh d] = .ret (.sh (.bl (rowB d))) [.sh d] := by
  unfold d_is_plan_row c_MOST_NUMBER
  rcases h with h | ⟨ds, h | h, hd, _⟩
  · cases d with
    | non => (repeat' kbo_bools) <;> rfl
    | int i => (repeat' kbo_bools) <;> rfl
    | bl b => (repeat' kbo_bools) <;> rfl
    | str z => (repeat' kbo_bools) <;> rfl
    | _ => cases h
  · subst h
    by_cases h4 : ds.length = 4
    · obtain ⟨a, b, c, e, rfl⟩ := len4 h4
      have ha := hd a (by simp)
      have hb := hd b (by simp)
      have hc := hd c (by simp)
      have he := hd e (by simp)
      show _ = FRes.ret (.sh (.bl ((isN a && isN c) && (whB2 0 MX b && whB2 0 MX e)))) _
      (repeat' kbo_bools)
      refine ⟨fun h => ?_, fun h => ?_⟩
      · (repeat' kbo_bools)
        have : (isN a && isN c) = false := by
          revert h
          cases isN a <;> cases isN c <;> simp
        rw [this]
        rfl
      · (repeat' kbo_bools)
        have : (isN a && isN c) = true := by
          revert h
          cases isN a <;> cases isN c <;> simp
        rw [this]
        rfl
    · have hb : (!decide ((ds.length : Int) = 4)) = true := by simp; omega
      rw [rowB_len h4]
      (repeat' kbo_bools)
      all_goals rfl
  · subst h
    (repeat' kbo_bools)
    all_goals rfl
/-- good rows -/
theorem rowB_r4 {d : D} (h : RowC d) (hb : rowB d = true) : ∃ r : R4, r.ok ∧ d = r.d := by
  match d, hb with
  | .tup [a, b, c, e], hb =>
    simp only [rowB, Bool.and_eq_true] at hb
    obtain ⟨⟨ha, hc⟩, hb, he⟩ := hb
    match a, b, c, e, ha, hb, hc, he with
    | .str a, .int b, .str c, .int e, ha, hb, hc, he =>
      simp only [whB2, Bool.and_eq_true, decide_eq_true_eq] at hb he
      exact ⟨⟨a, b, c, e⟩, ⟨ha, hc, hb, he⟩, rfl⟩
theorem r4_rowB {r : R4} (h : r.ok) : rowB r.d = true := by
  obtain ⟨h1, h2, h3, h4⟩ := h
  simp only [R4.d, rowB, isN, whB2, h1, h2, Bool.true_and, Bool.and_eq_true, decide_eq_true_eq]
  exact ⟨h3, h4⟩
theorem r4_rowC {r : R4} (h : r.ok) : RowC r.d := by
  refine .inr ⟨_, .inl rfl, fun e he => ?_, by simp⟩
  have h1 := (name_ok h.1).2.2
  have h2 := (name_ok h.2.1).2.2
  simp only [List.mem_cons, List.not_mem_nil, or_false] at he
  rcases he with rfl | rfl | rfl | rfl <;> simp only [Lf] <;> omega
theorem all_r4 : ∀ {ds : List D}, (∀ d ∈ ds, RowC d) → ds.all rowB = true → ∃ rs : List R4, ds = rs.map R4.d ∧ ∀ r ∈ rs, r.ok
  | [], _, _ => ⟨[], rfl, fun _ m => by cases m⟩
  | d :: ds, h, hb => by
    rw [List.all_cons, Bool.and_eq_true] at hb
    obtain ⟨r, hr, rfl⟩ := rowB_r4 (h d (by simp)) hb.1
    obtain ⟨rs, rfl, hrs⟩ := all_r4 (fun x m => h x (by simp [m])) hb.2
    exact ⟨r :: rs, rfl, fun x m => by
      rcases List.mem_cons.mp m with rfl | m
      · exact hr
      · exact hrs x m⟩
open Classical in
/-- what the law asks of rows -/
noncomputable def areB (ds : List D) : Bool := ds.all rowB && decide (∀ rs : List R4, ds = rs.map R4.d → Ap4 rs)
theorem areB_r4 {rs : List R4} (h : ∀ r ∈ rs, r.ok) : areB (rs.map R4.d) = decide (Ap4 rs) := by
  unfold areB
  have : (rs.map R4.d).all rowB = true := by
    rw [List.all_map, List.all_eq_true]
    exact fun r m => r4_rowB (h r m)
  rw [this, Bool.true_and, decide_eq_decide]
  refine ⟨fun k => k rs rfl, fun k ss e => ?_⟩
  have : rs = ss := by
    clear k h this
    induction rs generalizing ss with
    | nil => cases ss with
      | nil => rfl
      | cons => cases e
    | cons r rs ih => cases ss with
      | nil => cases e
      | cons s ss =>
        simp only [List.map_cons, List.cons.injEq] at e
        rw [R4.inj e.1, ih ss e.2]
  rw [← this]
  exact k
end Lw
end
end
section
set_option maxHeartbeats 0
open PySem L2 Den
local macro_rules | `(tactic| infer_instance) => `(tactic| (((with_reducible show Sz _); unfold Sz; first | (omega) | (simp only [List.length_map, List.length_append, List.length_cons, List.length_nil, List.length_reverse, List.length_range, List.length_take, List.length_drop, len_app, len1]; omega) | (simp only [List.mem_range, List.length_map, List.length_append, List.length_cons, List.length_nil] at *; omega))))
local macro_rules | `(tactic| fold_depth) => `(tactic| (first | ((with_reducible show At _ _ _); first | (with_reducible exact at0) | (with_reducible exact at1) | (with_reducible exact at2) | (with_reducible exact at3)) | ((with_reducible show St _ _ _ _); first | (with_reducible exact st0) | (with_reducible exact st1) | (with_reducible exact st2) | (with_reducible exact st3)) | ((with_reducible show Fu _ _); first | (with_reducible exact fu0) | (with_reducible exact fu1) | (with_reducible exact fu2) | (with_reducible exact fu3))))
local macro_rules | `(tactic| keq_rows) => `(tactic| (first | (with_reducible rfl) | (with_reducible assumption) | (simp only [Den.isNon, Den.isBl, List.length_cons, List.length_nil, Nat.reduceAdd, Nat.zero_add, Int.cast_ofNat_Int, Int.reduceEq, Int.reduceLT, Int.reduceLE, Int.reduceNeg, decide_true, decide_false, Bool.not_true, Bool.not_false, Bool.and_true, Bool.true_and, Bool.and_false, Bool.false_and, Bool.or_true, Bool.true_or, Bool.or_false, Bool.false_or, List.isEmpty_nil, List.isEmpty_cons, reduceCtorEq, List.map_cons, List.map_nil]; done)))
local macro_rules | `(tactic| tb_start) => `(tactic| (first | ((with_reducible show _ = _); first | ((with_reducible show gIx _ _ = _); first | (with_reducible refine' op_ixL ?_) | (with_reducible refine' op_ixT ?_)) | ((with_reducible show gLen _ = _); first | (with_reducible refine' len_T) | (with_reducible refine' len_L)) | ((with_reducible show gNe _ _ = _); first | (with_reducible refine' op_ne ?_)) | ((with_reducible show gIn _ _ = _); first | (with_reducible refine' op_in ?_)) | ((with_reducible show gSl _ _ _ = _); first | (with_reducible refine' sl_L ?_)) | ((with_reducible show gIsi _ _ = _); first | ((with_reducible show gIsi "tuple" _ = _); first | (with_reducible refine' isi_non_tuple) | (with_reducible refine' isi_bl_tuple) | (with_reducible refine' isi_int_tuple) | (with_reducible refine' isi_str_tuple) | (with_reducible refine' isi_tup_tuple) | (with_reducible refine' isi_lst_tuple))) | ((with_reducible show gIsi2 _ _ _ = _); first | (with_reducible refine' isi2_non) | (with_reducible refine' isi2_bl) | (with_reducible refine' isi2_int) | (with_reducible refine' isi2_str) | (with_reducible refine' isi2_dic) | (with_reducible refine' isi2_oL)) | (with_reducible refine' eqE_L))))
local macro_rules | `(tactic| keq_hits) => `(tactic| (first | ((with_reducible show _ = _); first | ((with_reducible show gEqD _ _ = _); first | (with_reducible refine' eq_ii)) | ((with_reducible show atI _ _ = _); first | (with_reducible refine' ix_lit0) | (with_reducible refine' ix_lit1) | (with_reducible refine' ix_lit2) | (with_reducible refine' ix_lit3) | (with_reducible refine' ix_nat ?_)) | ((with_reducible show cutD _ _ _ = _); first | (with_reducible refine' cut_toN)) | (with_reducible refine' ix_map ?_) | (with_reducible refine' ix_getD ?_))))
local macro_rules | `(tactic| kat_tups) => `(tactic| ((with_reducible show (_ : Prop)); first | ((with_reducible show Ev _ _ _ _); first | (with_reducible exact ev_c) | ((with_reducible refine' ev_var ?_); fold_depth) | (with_reducible refine' ev_op2 ?_ ?_) | (with_reducible refine' ev_op1 ?_ ?_) | (with_reducible refine' ev_lst ?_ ?_) | ((with_reducible refine' ev_varO ?a ?_ ?_ ?_); (case a => fold_depth)) | (with_reducible refine' ev_call ?_ ?_ ?_ ?_ ?_) | (with_reducible refine' ev_slp ?_ ?_ ?_ ?_ ?_) | (with_reducible refine' ev_lcY ?_ ?_ ?_ ?_ ?_ ?_ ?_ ?_) | (with_reducible refine' ev_lc ?_ ?_ ?_ ?_ ?_ ?_ ?_ ?_ ?_)) | ((with_reducible show EvT _ _ _ _); first | (with_reducible refine' evt_b ?_) | (with_reducible refine' evt_not ?_) | (with_reducible refine' evt_or ?_ ?_)) | ((with_reducible show EvO _ _ _ _); first | (with_reducible exact evo_0) | (with_reducible refine' evo_x ?_ ?_) | (with_reducible refine' evo_p ?_ ?_ ?_)) | ((with_reducible show EvS _ _ _ _); first | (with_reducible exact evs_0)) | ((with_reducible show EvA _ _ _ _); first | (with_reducible exact eva_0) | (with_reducible refine' eva_x ?_ ?_)) | ((with_reducible show EvP _ _ _ _); first | (with_reducible exact evp_0) | (with_reducible refine' evp_1 ?_ ?_)) | ((with_reducible show EvI _ _ _ _); first | (with_reducible refine' evi_it ?_ ?_) | (with_reducible refine' evi_rng ?_ ?_ ?_)) | ((with_reducible show Fz _ _); first | (with_reducible exact fz_1) | (with_reducible exact fz_2)) | ((with_reducible show Own _); first | (with_reducible exact own_L)) | ((with_reducible show Tak _ _ _ _); first | (with_reducible exact tak_0) | (with_reducible refine' tak_o ?_)) | ((with_reducible show Giv _ _ _ _); first | (with_reducible exact giv_0) | (with_reducible refine' giv_o ?_)) | ((with_reducible show Nl _ _); first | (with_reducible exact nl_0)) | ((with_reducible show Lis _ _); first | (with_reducible exact lis_0) | (with_reducible refine' lis_s ?_)) | ((with_reducible show ItR _ _); first | (with_reducible exact itr_l)) | ((with_reducible show Rn _ _); first | (with_reducible exact rn_nat)) | ((with_reducible show Tg _ _ _ _); first | (with_reducible refine' tg_n ?_)) | ((with_reducible show Mp _ _ _); first | (with_reducible exact mp_rng0) | (with_reducible exact mp_map)) | ((with_reducible show Clr _ _ _); first | (with_reducible exact clr_0) | (with_reducible refine' clr_c ?_ ?_)) | ((with_reducible show OrR _ _ _ _ _); first | ((with_reducible refine' orr_t ?b); (case b => keq_rows)) | ((with_reducible refine' orr_f ?b ?_); (case b => keq_rows)) | (with_reducible refine' orr_g ?_)) | ((with_reducible show Ini _ _ _ _); first | (with_reducible exact ini_0) | (with_reducible refine' ini_t ?_) | (with_reducible refine' ini_n ?_)) | ((with_reducible show Outs _ _ _ _); first | (with_reducible exact outs_0) | (with_reducible refine' outs_t ?_)) | (fold_depth) | ((with_reducible show _ = FRes.ret _ _); first | (tb_start)) | ((with_reducible show (_ : Prop)); with_reducible intro _) | (infer_instance) | (tb_start) | (keq_hits) | ((with_reducible show (_ : Prop)); with_reducible assumption)))
local macro_rules | `(tactic| tb_rel) => `(tactic| (first | (fail_if_success (with_reducible show (_ : Prop))) | (kat_tups; all_goals tb_rel) | (with_reducible show Sz _)))
local macro_rules | `(tactic| kbo_bools) => `(tactic| (first | ((with_reducible refine' pws_set ?e ?s ?k); (case' e => tb_rel); (case' s => tb_rel)) | ((with_reducible refine' pws_if ?e ?k); (case' e => tb_rel); (case' k => first | ((with_reducible refine' ifr_t ?b ?k2); (case b => keq_rows)) | ((with_reducible refine' ifr_f ?b ?k2); (case b => keq_rows)) | (skip))) | ((with_reducible refine' pws_ret ?e ?k); (case' e => tb_rel)) | ((with_reducible refine' pw_ret ?e ?k); (case' e => tb_rel)) | (with_reducible refine' pws_nx ?_) | (with_reducible refine' pw_nx ?_) | (with_reducible refine' pw_end (sIf _ _ _) ?_) | (with_reducible refine' lk_nx ?_) | (with_reducible refine' lk_ret ?_) | ((with_reducible refine' dk_ret ?o ?q); (case' o => tb_rel)) | ((with_reducible refine' eq_def ?i ?k); (case' i => tb_rel)) | ((with_reducible show _ = (_ : FRes)); with_reducible rfl)))
section
open PySem L2 Den
namespace Lw

local macro_rules | `(tactic| tb_start) => `(tactic| with_reducible refine' lf_name ?_)
local macro_rules | `(tactic| tb_start) => `(tactic| with_reducible refine' lf_lname ?_)
local macro_rules | `(tactic| tb_start) => `(tactic| with_reducible refine' lf_whole ?_)
local macro_rules | `(tactic| tb_start) => `(tactic| with_reducible refine' lf_number ?_)
local macro_rules | `(tactic| tb_start) => `(tactic| with_reducible refine' R4.sl2)
local macro_rules | `(tactic| tb_start) => `(tactic| with_reducible refine' R4.sl2f)
local macro_rules | `(tactic| tb_start) => `(tactic| with_reducible refine' R4.sl3)
local macro_rules | `(tactic| tb_start) => `(tactic| with_reducible refine' R4.ix0)
local macro_rules | `(tactic| tb_start) => `(tactic| with_reducible refine' R4.ix1)
local macro_rules | `(tactic| tb_start) => `(tactic| with_reducible refine' R4.ix2)
local macro_rules | `(tactic| tb_start) => `(tactic| with_reducible refine' R4.ix3)
local macro_rules | `(tactic| keq_hits) => `(tactic| with_reducible refine' R4.inKeys ?_)
theorem t_are_L {ds : List D} (h : ∀ d ∈ ds, RowC d) (hl : ds.length ≤ 100) : d__law_are_rows [oL ds] = .ret (.sh (.bl (areB ds))) [.sh (.lst ds)] := by
  unfold d__law_are_rows
  (repeat' kbo_bools)
  refine pws_for (fun rest σ => ∃ (y : Option O) (pre : List D), σ = [some (.sh (.lst ds)), y, none, none] ∧ ds = pre ++ rest ∧ pre.all rowB = true) (by tb_rel) ⟨none, [], rfl, rfl, rfl⟩ (fun d rest σ hh => ?_) (fun σ hh => ?_)
  · obtain ⟨y, pre, rfl, e, hp⟩ := hh
    have hd := h d (by rw [e]; simp)
    have bad : rowB d = false → areB ds = false := fun hb => by
      unfold areB
      rw [e, List.all_append, List.all_cons, hb]
      simp
    have good : rowB d = true → ds = (pre ++ [d]) ++ rest ∧ (pre ++ [d]).all rowB = true := fun hb => ⟨by rw [e]; simp, by rw [List.all_append, hp]; simp [hb]⟩
    refine ⟨_, by tb_rel, ?_⟩
    rcases hd with hd | ⟨es, hd | hd, he, _⟩
    · cases d with
      | non => rw [bad rfl]; (repeat' kbo_bools)
      | int i => rw [bad rfl]; (repeat' kbo_bools)
      | bl b => rw [bad rfl]; (repeat' kbo_bools)
      | str z => rw [bad rfl]; (repeat' kbo_bools)
      | _ => cases hd
    · subst hd
      by_cases h4 : es.length = 4
      · obtain ⟨a, b, c, f, rfl⟩ := len4 h4
        have ha := he a (by simp)
        have hb := he b (by simp)
        have hc := he c (by simp)
        have hf := he f (by simp)
        (repeat' kbo_bools)
        refine ⟨fun h => ?_, fun h => ?_⟩
        · rw [bad (by show ((isN a && isN c) && (whB2 0 MX b && whB2 0 MX f)) = false; revert h; cases isN a <;> cases isN c <;> simp)]
          (repeat' kbo_bools)
        · (repeat' kbo_bools)
          refine ⟨fun h2 => ?_, fun h2 => ?_⟩
          · rw [bad (by show ((isN a && isN c) && (whB2 0 MX b && whB2 0 MX f)) = false; revert h2; cases whB2 0 MX b <;> cases whB2 0 MX f <;> simp)]
            (repeat' kbo_bools)
          · (repeat' kbo_bools)
            exact ⟨_, _, rfl, good (by show ((isN a && isN c) && (whB2 0 MX b && whB2 0 MX f)) = true; revert h h2; cases isN a <;> cases isN c <;> cases whB2 0 MX b <;> cases whB2 0 MX f <;> simp)⟩
      · have hb : (!decide ((es.length : Int) = 4)) = true := by simp; omega
        rw [bad (rowB_len h4)]
        (repeat' kbo_bools)
    · subst hd
      rw [bad rfl]
      (repeat' kbo_bools)
  · obtain ⟨y, pre, rfl, e, hp⟩ := hh
    rw [List.append_nil] at e
    subst e
    obtain ⟨rs, rfl, hrs⟩ := all_r4 h hp
    rw [areB_r4 hrs]
    rw [List.length_map] at hl
    have mem : ∀ {k : Nat}, k < rs.length → rs.getD k default ∈ rs := fun {k} hk => by
      rw [List.getD_eq_getElem?_getD, List.getElem?_eq_getElem hk]
      exact List.getElem_mem hk
    (repeat' kbo_bools)
    · rename_i k hk
      exact ⟨hrs _ (mem (by simpa using List.mem_range.mp hk)), hrs⟩
    · congr 3
      rw [List.length_map, List.isEmpty_map, apart_at]
theorem t_are_no {v : D} (h : v = .non ∨ v = .int 5 ∨ v = .str "ab" ∨ v = .dic [] ∨ v = .bl true) : d__law_are_rows [.sh v] = .ret (.sh (.bl false)) [.sh v] := by
  unfold d__law_are_rows
  rcases h with rfl | rfl | rfl | rfl | rfl <;> (repeat' kbo_bools)
end Lw
end
end
section
set_option maxHeartbeats 0
open PySem L2 Den
local macro_rules | `(tactic| infer_instance) => `(tactic| (((with_reducible show Sz _); unfold Sz; first | (with_reducible assumption) | (omega) | (simp only [List.length_map, List.length_append, List.length_cons, List.length_nil, List.length_reverse, List.length_range, List.length_take, List.length_drop, len_app, len1]; omega))))
local macro_rules | `(tactic| fold_depth) => `(tactic| (first | ((with_reducible show At _ _ _); first | (with_reducible exact at0) | (with_reducible exact at1) | (with_reducible exact at2)) | ((with_reducible show St _ _ _ _); first | (with_reducible exact st0) | (with_reducible exact st1) | (with_reducible exact st2)) | ((with_reducible show Fu _ _); first | (with_reducible exact fu0) | (with_reducible exact fu1) | (with_reducible exact fu2)) | ((with_reducible show Em _ _); first | (with_reducible exact em0) | (with_reducible exact em1))))
local macro_rules | `(tactic| keq_rows) => `(tactic| (first | (with_reducible rfl) | (with_reducible assumption) | (simp only [Den.isNon, Den.isBl, List.length_cons, List.length_nil, Nat.reduceAdd, Nat.zero_add, Int.cast_ofNat_Int, Int.reduceEq, Int.reduceLT, Int.reduceLE, Int.reduceNeg, decide_true, decide_false, Bool.not_true, Bool.not_false, Bool.and_true, Bool.true_and, Bool.and_false, Bool.false_and, Bool.or_true, Bool.true_or, Bool.or_false, Bool.false_or, List.isEmpty_nil, List.isEmpty_cons, reduceCtorEq, List.map_cons, List.map_nil]; done)))
local macro_rules | `(tactic| tb_start) => `(tactic| (first | ((with_reducible show _ = _); first | (with_reducible assumption) | ((with_reducible show gLen _ = _); first | (with_reducible refine' len_T) | (with_reducible refine' len_S) | (with_reducible refine' len_to)) | ((with_reducible show gLt _ _ = _); first | (with_reducible refine' op_ltI)) | ((with_reducible show gFld _ _ _ = _); first | (with_reducible refine' op_fldO ?_)) | ((with_reducible show gIsi2 _ _ _ = _); first | (with_reducible refine' isi2_non) | (with_reducible refine' isi2_bl) | (with_reducible refine' isi2_int) | (with_reducible refine' isi2_str) | (with_reducible refine' isi2_tup) | (with_reducible refine' isi2_lst) | (with_reducible refine' isi2_dic) | (with_reducible refine' isi2_oL)) | (with_reducible refine' list_T) | (with_reducible refine' list_S) | (with_reducible refine' tuple_L) | (with_reducible refine' all_L))))
local macro_rules | `(tactic| keq_hits) => `(tactic| (first | ((with_reducible show _ = _); first | ((with_reducible show List.lookup _ _ = _); first | (with_reducible exact lk_hit) | (with_reducible refine' lk_miss (by decide +kernel) ?_) | (with_reducible exact lk_nil)) | ((with_reducible show keyT _ = _); with_reducible refine' key_t ?_) | ((with_reducible show keyL _ = _); first | (with_reducible refine' key_s ?_) | (with_reducible refine' key_i ?_) | (with_reducible exact key_0)))))
local macro_rules | `(tactic| kat_tups) => `(tactic| ((with_reducible show (_ : Prop)); first | ((with_reducible show Ev _ _ _ _); first | (with_reducible exact ev_c) | ((with_reducible refine' ev_var ?_); fold_depth) | (with_reducible refine' ev_op2 ?_ ?_) | (with_reducible refine' ev_op1 ?_ ?_) | (with_reducible refine' ev_fz ?_ ?_) | (with_reducible refine' ev_lst ?_ ?_) | ((with_reducible refine' ev_varO ?a ?_ ?_ ?_); (case a => fold_depth)) | ((with_reducible refine' ev_mvO ?a ?_ ?_); (case a => fold_depth)) | (with_reducible refine' ev_call ?_ ?_ ?_ ?_ ?_) | (with_reducible refine' ev_slp ?_ ?_ ?_ ?_ ?_) | (with_reducible refine' ev_lcY ?_ ?_ ?_ ?_ ?_ ?_ ?_ ?_) | (with_reducible refine' ev_new ?_ ?_ ?_ ?_ ?_) | (with_reducible refine' ev_dcT ?_ ?_ ?_ ?_ ?_ ?_ ?_ ?_ ?_ ?_)) | ((with_reducible show EvT _ _ _ _); first | (with_reducible refine' evt_b ?_) | (with_reducible refine' evt_not ?_) | (with_reducible refine' evt_or ?_ ?_)) | ((with_reducible show EvX _ _ _ _); first | (with_reducible refine' evx_fz ?_) | (with_reducible refine' evx_op ?_) | (with_reducible refine' evx_new ?_ ?_ ?_ ?_ ?_)) | ((with_reducible show XA _ _ _ _); first | ((with_reducible refine' xa_x ?h); (case h => tb_rel)) | (with_reducible refine' xa_s ?_ ?_)) | ((with_reducible show Fa _ _ _ _); first | (with_reducible exact fa_0) | (with_reducible refine' fa_s ?_)) | ((with_reducible show ItS _ _ _); first | (with_reducible exact its_0) | (with_reducible refine' its_c ?_) | (with_reducible refine' its_f ?_ ?_)) | ((with_reducible show EvO _ _ _ _); first | (with_reducible exact evo_0) | (with_reducible refine' evo_x ?_ ?_) | (with_reducible refine' evo_p ?_ ?_ ?_)) | ((with_reducible show EvS _ _ _ _); first | (with_reducible exact evs_0) | (with_reducible refine' evs_x ?_ ?_)) | ((with_reducible show EvA _ _ _ _); first | (with_reducible exact eva_0) | (with_reducible refine' eva_p ?_ ?_)) | ((with_reducible show EvP _ _ _ _); first | (with_reducible exact evp_0) | (with_reducible refine' evp_1 ?_ ?_)) | ((with_reducible show EvI _ _ _ _); first | (with_reducible refine' evi_it ?_ ?_)) | ((with_reducible show Fz _ _); first | (with_reducible assumption) | (with_reducible exact fz_1) | (with_reducible exact fz_2) | (with_reducible refine' fz_dcAll ?_)) | ((with_reducible show Own _); first | (with_reducible exact own_L)) | ((with_reducible show Tak _ _ _ _); first | (with_reducible exact tak_0) | ((with_reducible refine' tak_s ?a ?_); (case a => fold_depth)) | (with_reducible refine' tak_p ?_ ?_ ?_ ?_)) | ((with_reducible show Giv _ _ _ _); first | (with_reducible exact giv_0) | ((with_reducible refine' giv_s ?a ?_); (case a => fold_depth)) | (with_reducible refine' giv_p ?_ ?_ ?_)) | ((with_reducible show Nl _ _); first | (with_reducible exact nl_0)) | ((with_reducible show Lis _ _); first | (with_reducible exact lis_0) | (with_reducible refine' lis_s ?_)) | ((with_reducible show ItR _ _); first | (with_reducible exact itr_t) | (with_reducible exact itr_l)) | ((with_reducible show Tg _ _ _ _); first | (with_reducible refine' tg_n ?_)) | ((with_reducible show Mp _ _ _); first | (with_reducible exact mp_map) | (with_reducible exact mp_id)) | ((with_reducible show Clr _ _ _); first | (with_reducible exact clr_0) | (with_reducible refine' clr_c ?_ ?_)) | ((with_reducible show OrR _ _ _ _ _); first | ((with_reducible refine' orr_t ?b); (case b => keq_rows)) | ((with_reducible refine' orr_f ?b ?_); (case b => keq_rows))) | ((with_reducible show Ini _ _ _ _); first | (with_reducible exact ini_0) | (with_reducible refine' ini_t ?_) | (with_reducible refine' ini_n ?_)) | ((with_reducible show Outs _ _ _ _); first | (with_reducible exact outs_0) | (with_reducible refine' outs_t ?_)) | (fold_depth) | ((with_reducible show _ = FRes.ret _ _); first | (with_reducible assumption) | (tb_start) | (with_reducible apply_assumption -exfalso -symm)) | ((with_reducible show (_ : Prop)); with_reducible intro _) | (infer_instance) | (tb_start) | (keq_hits)))
local macro_rules | `(tactic| tb_rel) => `(tactic| (first | (fail_if_success (with_reducible show (_ : Prop))) | (kat_tups; all_goals tb_rel) | (with_reducible show Sz _)))
local macro_rules | `(tactic| kbo_bools) => `(tactic| (first | ((with_reducible refine' pws_set ?e ?s ?k); (case' e => tb_rel); (case' s => tb_rel)) | ((with_reducible refine' pws_if ?e ?k); (case' e => tb_rel); (case' k => first | ((with_reducible refine' ifr_t ?b ?k2); (case b => keq_rows)) | ((with_reducible refine' ifr_f ?b ?k2); (case b => keq_rows)))) | ((with_reducible refine' pw_ret ?e ?k); (case' e => tb_rel)) | ((with_reducible refine' pws_fld ?e ?f ?g ?h ?s ?t ?u ?k); (case' e => tb_rel); (case' f => tb_rel); (case' g => tb_rel); (case' h => tb_rel); (case' s => tb_rel); (case' t => tb_rel); (case' u => tb_rel)) | ((with_reducible refine' pws_raise2 ?e ?k); (case' e => tb_rel)) | (with_reducible refine' pws_tryF ?_) | (with_reducible refine' tk_nx ?_) | ((with_reducible refine' tk_exc ?e ?f ?s ?t ?k); (case' e => tb_rel); (case' f => tb_rel); (case' s => tb_rel); (case' t => tb_rel)) | ((with_reducible refine' pws_setX ?e ?k); (case' e => tb_rel)) | (with_reducible refine' pws_nx ?_) | (with_reducible refine' pw_nx ?_) | (with_reducible refine' pw_end (sSet _ _) ?_) | (with_reducible refine' pw_end (sFldP _ _ _ _) ?_) | ((with_reducible refine' dk_ret ?o ?q); (case' o => tb_rel)) | ((with_reducible refine' dk_nx ?o ?q); (case' o => tb_rel)) | ((with_reducible refine' dk_exc ?o ?q); (case' o => tb_rel)) | ((with_reducible refine' eq_def ?i ?k); (case' i => tb_rel)) | ((with_reducible show _ = (_ : FRes)); with_reducible rfl)))
section
open PySem L2 Den
namespace Lw

local macro_rules | `(tactic| tb_start) => `(tactic| with_reducible refine' lf_name ?_)
local macro_rules | `(tactic| tb_start) => `(tactic| with_reducible refine' lf_lname ?_)
local macro_rules | `(tactic| tb_start) => `(tactic| with_reducible refine' lf_whole ?_)
local macro_rules | `(tactic| tb_start) => `(tactic| with_reducible refine' lf_number ?_)
local macro_rules | `(tactic| tb_start) => `(tactic| with_reducible refine' R4.sl2)
local macro_rules | `(tactic| tb_start) => `(tactic| with_reducible refine' R4.sl2f)
local macro_rules | `(tactic| tb_start) => `(tactic| with_reducible refine' R4.sl3)
local macro_rules | `(tactic| tb_start) => `(tactic| with_reducible refine' R4.ix0)
local macro_rules | `(tactic| tb_start) => `(tactic| with_reducible refine' R4.ix1)
local macro_rules | `(tactic| tb_start) => `(tactic| with_reducible refine' R4.ix2)
local macro_rules | `(tactic| tb_start) => `(tactic| with_reducible refine' R4.ix3)
local macro_rules | `(tactic| keq_hits) => `(tactic| with_reducible refine' R4.inKeys ?_)
theorem t_listed_L {ds : List D} : d_is_listed [oL ds] = .ret (.sh (.bl true)) [oL ds] := by
  unfold d_is_listed
  (repeat' kbo_bools)
theorem t_listed_l {ds : List D} : d_is_listed [.sh (.lst ds)] = .ret (.sh (.bl true)) [.sh (.lst ds)] := by
  unfold d_is_listed
  (repeat' kbo_bools)
theorem t_listed_t {ds : List D} : d_is_listed [.sh (.tup ds)] = .ret (.sh (.bl true)) [.sh (.tup ds)] := by
  unfold d_is_listed
  (repeat' kbo_bools)
theorem t_listed_no {v : D} (h : v = .non ∨ v = .int 5 ∨ v = .str "ab" ∨ v = .dic [] ∨ v = .bl true) : d_is_listed [.sh v] = .ret (.sh (.bl false)) [.sh v] := by
  unfold d_is_listed
  rcases h with rfl | rfl | rfl | rfl | rfl <;> (repeat' kbo_bools)
theorem t_r4_row {d : D} (h : Sz (RowC d)) : d_is_plan_row [.sh d] = .ret (.sh (.bl (rowB d))) [.sh d] := t_plan_row h.go
local macro_rules | `(tactic| tb_start) => `(tactic| with_reducible refine' t_listed_L)
local macro_rules | `(tactic| tb_start) => `(tactic| with_reducible refine' t_listed_l)
local macro_rules | `(tactic| tb_start) => `(tactic| with_reducible refine' t_listed_t)
local macro_rules | `(tactic| tb_start) => `(tactic| with_reducible refine' t_r4_row ?_)
/-- a plan -/
def planF (rs : List R4) : List (Str × O) := [("rows", .sh (.tup ((srtBy R4.d rs).map R4.d))), ("_told", .sh (.dit (tabD R4.k R4.v (srtBy R4.d rs))))]
@[reducible] def planD (rs : List R4) : D := .obj 2 [("rows", .tup ((srtBy R4.d rs).map R4.d)), ("_told", .dit (tabD R4.k R4.v (srtBy R4.d rs)))]
/-- rows as they may be handed in, and as they stand behind -/
def Hand (V : O) (ds : List D) (V' : O) : Prop := (V = oL ds ∧ V' = .sh (.lst ds)) ∨ (V = .sh (.lst ds) ∧ V' = .sh (.lst ds)) ∨ (V = .sh (.tup ds) ∧ V' = .sh (.tup ds))
theorem ap_perm {xs ys : List R4} (h : xs.Perm ys) (ha : Ap4 xs) : Ap4 ys := (List.Perm.pairwise_iff (R := fun a b : R4 => a.k ≠ b.k) (fun e => Ne.symm e) h).mp ha
theorem t_init_good {V V' : O} {rs : List R4} (hV : Hand V (rs.map R4.d) V') (hrs : ∀ r ∈ rs, r.ok) (ap : Ap4 rs) (hl : rs.length ≤ 100) : d_Plan___init__ [.obj 2 [], V] = .ret (.sh .non) [.obj 2 (planF rs), V'] := by
  have hb : (!(rs.all fun x => rowB x.d)) = false := by
    rw [Bool.not_eq_false', List.all_eq_true]
    exact fun r m => r4_rowB (hrs r m)
  have ha : rs.Pairwise (fun a b => ([.inr a.p, .inl a.n] : List Key) ≠ [.inr b.p, .inl b.n]) := ap
  have el := dcAll_new (kf := fun x : R4 => [.inr x.p, .inl x.n]) (vf := fun _ => .bl true) ha
  have hlen : decide (((dcAll (fun x : R4 => [.inr x.p, .inl x.n]) (fun _ => .bl true) rs []).length : Int) < ((rs.map R4.d).length : Int)) = false := by
    rw [el]
    simp [tab]
  have hs := R4.sort (rs := rs) (by omega)
  have sp := srt_perm R4.d rs
  have ha2 : (srtBy R4.d rs).Pairwise (fun a b => ([.inr a.p, .inl a.n] : List Key) ≠ [.inr b.p, .inl b.n]) := ap_perm sp.symm ap
  have hl2 := sp.length_eq
  unfold d_Plan___init__
  rcases hV with ⟨rfl, rfl⟩ | ⟨rfl, rfl⟩ | ⟨rfl, rfl⟩
  all_goals (repeat' kbo_bools)
  all_goals first
    | rfl
    | (rename_i x hx; exact r4_rowC (hrs x hx))
/-- rows that make no plan -/
theorem t_init_bad {V V' : O} {ds : List D} {v : D} (hV : Hand V ds V') (hv : V' = .sh v) (hd : ∀ d ∈ ds, RowC d) (hb : areB ds = false) (hl : ds.length ≤ 100) : d_Plan___init__ [.obj 2 [], V] = .exc ⟨.own 1, some [("row", v), ("what", .str "plan")]⟩ [.obj 2 [], V'] := by
  unfold d_Plan___init__
  by_cases ha : ds.all rowB = true
  · obtain ⟨rs, rfl, hrs⟩ := all_r4 hd ha
    rw [areB_r4 hrs] at hb
    rw [List.length_map] at hl
    have na : ¬ rs.Pairwise (fun a b => ([.inr a.p, .inl a.n] : List Key) ≠ [.inr b.p, .inl b.n]) := of_decide_eq_false hb
    have hb1 : (!(rs.all fun x => rowB x.d)) = false := by
      rw [Bool.not_eq_false', List.all_eq_true]
      exact fun r m => r4_rowB (hrs r m)
    have hlen : decide (((dcAll (fun x : R4 => [.inr x.p, .inl x.n]) (fun _ => .bl true) rs []).length : Int) < ((rs.map R4.d).length : Int)) = true := by
      have := dcAll_lt (kf := fun x : R4 => [.inr x.p, .inl x.n]) (vf := fun _ => .bl true) (xs := rs) (acc := []) (.inl na)
      rw [decide_eq_true_eq, List.length_map]
      simp only [List.length_nil, Nat.zero_add] at this
      omega
    rcases hV with ⟨rfl, rfl⟩ | ⟨rfl, rfl⟩ | ⟨rfl, rfl⟩ <;> cases hv
    all_goals (repeat' kbo_bools)
    all_goals first
      | rfl
      | (rename_i x hx; exact r4_rowC (hrs x hx))
  · have hb1 : (!(ds.all fun x => rowB x)) = true := by
      rw [Bool.not_eq_true', Bool.eq_false_iff]
      exact ha
    rcases hV with ⟨rfl, rfl⟩ | ⟨rfl, rfl⟩ | ⟨rfl, rfl⟩ <;> cases hv
    all_goals (repeat' kbo_bools)
    all_goals first
      | rfl
      | (rename_i x hx; exact hd x hx)
theorem t_init_no {v : D} (h : v = .non ∨ v = .int 5 ∨ v = .str "ab" ∨ v = .dic [] ∨ v = .bl true) : d_Plan___init__ [.obj 2 [], .sh v] = .exc ⟨.own 1, some [("row", v), ("what", .str "plan")]⟩ [.obj 2 [], .sh v] := by
  have e := t_listed_no h
  unfold d_Plan___init__
  (repeat' kbo_bools)
theorem fz_plan {rs : List R4} : Fz (.obj 2 (planF rs)) (planD rs) := by
  unfold planF planD
  exact fz_o (fzs_s (fzs_s fzs_0))
theorem t_made_good {V V' : O} {rs : List R4} (hV : Hand V (rs.map R4.d) V') (hrs : ∀ r ∈ rs, r.ok) (ap : Ap4 rs) (hl : rs.length ≤ 100) : d__law_made [V] = .ret (oL [.str "fine", planD rs]) [V'] := by
  have e := t_init_good hV hrs ap hl
  have hf := fz_plan (rs := rs)
  unfold d__law_made
  rcases hV with ⟨rfl, rfl⟩ | ⟨rfl, rfl⟩ | ⟨rfl, rfl⟩
  all_goals (repeat' kbo_bools)
theorem t_made_bad {V V' : O} {ds : List D} {v : D} (hV : Hand V ds V') (hv : V' = .sh v) (hd : ∀ d ∈ ds, RowC d) (hb : areB ds = false) (hl : ds.length ≤ 100) : d__law_made [V] = .ret (oL [.str "row", .str "plan", v]) [V'] := by
  have e := t_init_bad hV hv hd hb hl
  unfold d__law_made
  rcases hV with ⟨rfl, rfl⟩ | ⟨rfl, rfl⟩ | ⟨rfl, rfl⟩ <;> cases hv
  all_goals (repeat' kbo_bools)
theorem t_made_no {v : D} (h : v = .non ∨ v = .int 5 ∨ v = .str "ab" ∨ v = .dic [] ∨ v = .bl true) : d__law_made [.sh v] = .ret (oL [.str "row", .str "plan", v]) [.sh v] := by
  have e := t_init_no h
  unfold d__law_made
  (repeat' kbo_bools)
end Lw
end
end
section
set_option maxHeartbeats 0
open PySem L2 Den
local macro_rules | `(tactic| infer_instance) => `(tactic| (((with_reducible show Sz _); unfold Sz; first | (omega) | (simp only [List.length_map, List.length_append, List.length_cons, List.length_nil, List.length_reverse, List.length_range, List.length_take, List.length_drop, len_app, len1]; omega))))
local macro_rules | `(tactic| fold_depth) => `(tactic| (first | ((with_reducible show At _ _ _); first | (with_reducible exact at0) | (with_reducible exact at1) | (with_reducible exact at2)) | ((with_reducible show St _ _ _ _); first | (with_reducible exact st1)) | ((with_reducible show Fu _ _); first | (with_reducible exact fu0) | (with_reducible exact fu1) | (with_reducible exact fu2))))
local macro_rules | `(tactic| keq_rows) => `(tactic| (first | (with_reducible rfl)))
local macro_rules | `(tactic| tb_start) => `(tactic| (first | ((with_reducible show _ = _); first | (with_reducible assumption) | ((with_reducible show gLen _ = _); first | (with_reducible refine' len_T)) | ((with_reducible show gEq _ _ = _); first | (with_reducible refine' op_eq ?_)) | ((with_reducible show gAdd _ _ = _); first | (with_reducible refine' op_addI) | (with_reducible refine' op_addLL ?_ ?_)) | ((with_reducible show gIsC _ _ = _); first | (with_reducible refine' isC_t)) | (with_reducible refine' max_L) | (with_reducible refine' max2_i))))
local macro_rules | `(tactic| keq_hits) => `(tactic| (first | ((with_reducible show _ = _); first | ((with_reducible show isDicO _ = _); first | (with_reducible exact isd_t)))))
local macro_rules | `(tactic| kat_tups) => `(tactic| ((with_reducible show (_ : Prop)); first | ((with_reducible show Ev _ _ _ _); first | (with_reducible exact ev_c) | ((with_reducible refine' ev_var ?_); fold_depth) | (with_reducible refine' ev_op2 ?_ ?_) | (with_reducible refine' ev_op1 ?_ ?_) | (with_reducible refine' ev_fz ?_ ?_) | (with_reducible refine' ev_tup ?_ ?_) | (with_reducible refine' ev_lst ?_ ?_) | (with_reducible refine' ev_call ?_ ?_ ?_ ?_ ?_) | (with_reducible refine' ev_andv ?_ ?_) | (with_reducible refine' ev_lcY ?_ ?_ ?_ ?_ ?_ ?_ ?_ ?_) | (with_reducible refine' ev_get1 ?_ ?_ ?_ ?_) | (with_reducible refine' ev_callD ?_ ?_ ?_ ?_ ?_ ?_ ?_)) | ((with_reducible show EvT _ _ _ _); first | (with_reducible refine' evt_b ?_) | (with_reducible refine' evt_not ?_) | (with_reducible refine' evt_or ?_ ?_)) | ((with_reducible show EvO _ _ _ _); first | (with_reducible exact evo_0) | (with_reducible refine' evo_x ?_ ?_) | (with_reducible refine' evo_p ?_ ?_ ?_)) | ((with_reducible show EvS _ _ _ _); first | (with_reducible exact evs_0) | (with_reducible refine' evs_x ?_ ?_)) | ((with_reducible show EvA _ _ _ _); first | (with_reducible exact eva_0) | (with_reducible refine' eva_x ?_ ?_) | (with_reducible refine' eva_p ?_ ?_)) | ((with_reducible show EvI _ _ _ _); first | (with_reducible refine' evi_it ?_ ?_)) | ((with_reducible show Fz _ _); first | (with_reducible exact fz_1) | (with_reducible exact fz_2)) | ((with_reducible show Tak _ _ _ _); first | (with_reducible exact tak_0) | (with_reducible refine' tak_o ?_) | ((with_reducible refine' tak_s ?a ?_); (case a => fold_depth))) | ((with_reducible show Giv _ _ _ _); first | (with_reducible exact giv_0) | ((with_reducible refine' giv_s ?a ?_); (case a => fold_depth))) | ((with_reducible show App _ _ _); first | (with_reducible exact app_0) | (with_reducible refine' app_c ?_)) | ((with_reducible show Lis _ _); first | (with_reducible exact lis_0) | (with_reducible refine' lis_s ?_)) | ((with_reducible show Apd _ _ _); first | (with_reducible exact apd_0) | (with_reducible refine' apd_n ?_) | (with_reducible refine' apd_s ?_)) | ((with_reducible show GivD _ _ _ _); first | (with_reducible exact givd_0) | (with_reducible refine' givd_o ?_) | ((with_reducible refine' givd_s ?a ?_); (case a => fold_depth))) | ((with_reducible show ItR _ _); first | (with_reducible exact itr_t) | (with_reducible exact itr_l)) | ((with_reducible show Tg _ _ _ _); first | (with_reducible refine' tg_n ?_)) | ((with_reducible show Mp _ _ _); first | (with_reducible exact mp_map)) | ((with_reducible show Clr _ _ _); first | (with_reducible exact clr_0) | (with_reducible refine' clr_c ?_ ?_)) | ((with_reducible show OrR _ _ _ _ _); first | (with_reducible refine' orr_g ?_)) | ((with_reducible show AndV _ _ _ _ _); first | ((with_reducible refine' andv_f ?b); (case b => keq_rows)) | ((with_reducible refine' andv_t ?b ?_); (case b => keq_rows))) | ((with_reducible show Ini _ _ _ _); first | (with_reducible exact ini_0) | (with_reducible refine' ini_t ?_) | (with_reducible refine' ini_n ?_)) | ((with_reducible show Outs _ _ _ _); first | (with_reducible exact outs_0) | (with_reducible refine' outs_t ?_)) | (fold_depth) | ((with_reducible show _ = FRes.ret _ _); first | (tb_start)) | ((with_reducible show (_ : Prop)); with_reducible intro _) | (infer_instance) | (tb_start) | (keq_hits) | ((with_reducible show (_ : Prop)); with_reducible assumption)))
local macro_rules | `(tactic| tb_rel) => `(tactic| (first | (fail_if_success (with_reducible show (_ : Prop))) | (kat_tups; all_goals tb_rel) | (with_reducible show Sz _)))
local macro_rules | `(tactic| kbo_bools) => `(tactic| (first | ((with_reducible refine' pws_if ?e ?k); (case' e => tb_rel); (case' k => first | (skip))) | ((with_reducible refine' pws_ret ?e ?k); (case' e => tb_rel)) | ((with_reducible refine' pw_ret ?e ?k); (case' e => tb_rel)) | (with_reducible refine' pws_nx ?_) | ((with_reducible refine' dk_ret ?o ?q); (case' o => tb_rel)) | ((with_reducible refine' eq_def ?i ?k); (case' i => tb_rel)) | ((with_reducible show _ = (_ : FRes)); with_reducible rfl)))
section
open PySem L2 Den
namespace Lw

local macro_rules | `(tactic| tb_start) => `(tactic| with_reducible refine' lf_name ?_)
local macro_rules | `(tactic| tb_start) => `(tactic| with_reducible refine' lf_lname ?_)
local macro_rules | `(tactic| tb_start) => `(tactic| with_reducible refine' lf_whole ?_)
local macro_rules | `(tactic| tb_start) => `(tactic| with_reducible refine' lf_number ?_)
local macro_rules | `(tactic| tb_start) => `(tactic| with_reducible refine' R4.sl2)
local macro_rules | `(tactic| tb_start) => `(tactic| with_reducible refine' R4.sl2f)
local macro_rules | `(tactic| tb_start) => `(tactic| with_reducible refine' R4.sl3)
local macro_rules | `(tactic| tb_start) => `(tactic| with_reducible refine' R4.ix0)
local macro_rules | `(tactic| tb_start) => `(tactic| with_reducible refine' R4.ix1)
local macro_rules | `(tactic| tb_start) => `(tactic| with_reducible refine' R4.ix2)
local macro_rules | `(tactic| tb_start) => `(tactic| with_reducible refine' R4.ix3)
local macro_rules | `(tactic| keq_hits) => `(tactic| with_reducible refine' R4.inKeys ?_)
local macro_rules | `(tactic| tb_start) => `(tactic| with_reducible refine' t_listed_L)
local macro_rules | `(tactic| tb_start) => `(tactic| with_reducible refine' t_listed_l)
local macro_rules | `(tactic| tb_start) => `(tactic| with_reducible refine' t_listed_t)
local macro_rules | `(tactic| tb_start) => `(tactic| with_reducible refine' t_r4_row ?_)
theorem fld_rows {rs : List R4} : gFld 2 "rows" (.sh (planD rs)) = some (.sh (.tup ((srtBy R4.d rs).map R4.d))) := by unfold planD; exact op_fld lk_hit
theorem fld_told {rs : List R4} : gFld 2 "_told" (.sh (planD rs)) = some (.sh (.dit (tabD R4.k R4.v (srtBy R4.d rs)))) := by unfold planD; exact op_fld (lk_miss (by decide +kernel) lk_hit)
theorem isC_plan {rs : List R4} : gIsC 2 (.sh (planD rs)) = some (.sh (.bl true)) := by unfold planD; exact isC_o
local macro_rules | `(tactic| tb_start) => `(tactic| with_reducible refine' fld_rows)
local macro_rules | `(tactic| tb_start) => `(tactic| with_reducible refine' fld_told)
local macro_rules | `(tactic| tb_start) => `(tactic| with_reducible refine' isC_plan)
local macro_rules | `(tactic| tb_start) => `(tactic| with_reducible refine' R4.tabIx ?_)
local macro_rules | `(tactic| tb_start) => `(tactic| with_reducible refine' R4.tabGet)
local macro_rules | `(tactic| keq_hits) => `(tactic| with_reducible refine' R4.eqRows ?_)
local macro_rules | `(tactic| keq_hits) => `(tactic| with_reducible refine' R4.tabIn)
theorem srt_mem {rs : List R4} (h : ∀ r ∈ rs, r.ok) : ∀ r ∈ srtBy R4.d rs, r.ok := fun r m => h r ((srt_perm R4.d rs).mem_iff.mp m)
theorem t_eq {rs ss : List R4} (h1 : ∀ r ∈ rs, r.ok) (h2 : ∀ r ∈ ss, r.ok) : d_Plan___eq__ [.sh (planD rs), .sh (planD ss)] = .ret (.sh (.bl (decide (srtBy R4.d rs = srtBy R4.d ss)))) [.sh (planD rs), .sh (planD ss)] := by
  unfold d_Plan___eq__
  (repeat' kbo_bools)
  exact ⟨srt_mem h1, srt_mem h2⟩
theorem t_eqT {rs : List R4} {ds : List D} : d_Plan___eq__ [.sh (planD rs), .sh (.tup ds)] = .ret (.sh (.bl false)) [.sh (planD rs), .sh (.tup ds)] := by
  unfold d_Plan___eq__
  (repeat' kbo_bools)
theorem t_len {rs : List R4} : d_Plan___len__ [.sh (planD rs)] = .ret (.sh (.int rs.length)) [.sh (planD rs)] := by
  unfold d_Plan___len__
  (repeat' kbo_bools)
  rw [List.length_map, (srt_perm R4.d rs).length_eq]
theorem t_many {rs : List R4} (hl : rs.length ≤ 1000) : d_Plan_many_notes [.sh (planD rs)] = .ret (.sh (.int (1 + (rs.map fun r => max r.n r.l).foldl max 0))) [.sh (planD rs)] := by
  have hl2 := (srt_perm R4.d rs).length_eq
  unfold d_Plan_many_notes
  (repeat' kbo_bools)
  congr 4
  exact foldl_max_perm ((srt_perm R4.d rs).map _) 0
theorem t_whole0 {d : D} (h : Lf d) : d_is_whole [.sh d, .sh (.int 0), .sh .non] = .ret (.sh (.bl (whB 0 d))) [.sh d, .sh (.int 0), .sh .non] := t_is_whole (lf_kn h)
local macro_rules | `(tactic| tb_start) => `(tactic| with_reducible refine' t_whole0 ?_)
/-- what row_at tells -/
def rowAt (rs : List R4) : D → D → D
  | .str p, .int n => if nmB p = true ∧ 0 ≤ n then ((R4.at_ rs p n).map R4.v).getD .non else .non
  | _, _ => .non
theorem rowAt_no {rs : List R4} {a b : D} (h : (!isN a || !whB 0 b) = true) : rowAt rs a b = .non := by
  unfold rowAt
  split
  · rw [if_neg]
    simp only [isN, whB, Bool.or_eq_true, Bool.not_eq_true', decide_eq_false_iff_not] at h
    rintro ⟨h1, h2⟩
    rcases h with h | h
    · rw [h1] at h; cases h
    · exact h h2
  · with_reducible rfl
theorem t_row_at {rs : List R4} {a b : D} (ha : Lf a) (hb : Lf b) (ap : Ap4 rs) : d_Plan_row_at [.sh (planD rs), .sh a, .sh b] = .ret (.sh (rowAt rs a b)) [.sh (planD rs), .sh a, .sh b] := by
  have sp := srt_perm R4.d rs
  unfold d_Plan_row_at
  (repeat' kbo_bools)
  refine ⟨fun h => ?_, fun h => ?_⟩
  · rw [rowAt_no h]
    (repeat' kbo_bools)
  · simp only [Bool.or_eq_false_iff, Bool.not_eq_false'] at h
    obtain ⟨p, rfl⟩ : ∃ p, a = .str p := by
      cases a <;> first | exact ⟨_, rfl⟩ | cases h.1
    obtain ⟨n, rfl⟩ : ∃ n, b = .int n := by
      cases b <;> first | exact ⟨_, rfl⟩ | cases h.2
    have e : rowAt rs (.str p) (.int n) = ((R4.at_ (srtBy R4.d rs) p n).map R4.v).getD .non := by
      show (if _ then _ else _) = _
      rw [if_pos ⟨h.1, of_decide_eq_true h.2⟩, R4.at_perm sp (ap_perm sp.symm ap) ap]
    rw [e]
    (repeat' kbo_bools)
theorem tabSelfK {rs : List R4} {r : R4} (h : Sz (Ap4 rs ∧ r ∈ rs)) : gIx (.dit (tab R4.k R4.v rs)) (.sh (R4.kd r)) = some (.sh (.tup [.str r.c, .int r.l])) := R4.tabSelf h
theorem addK {r : R4} : gAdd (.sh (R4.kd r)) (.sh (.tup [.str r.c, .int r.l])) = some (.sh r.d) := by unfold R4.kd R4.d; exact op_addT (by show _ ≤ _; simp) rfl
local macro_rules | `(tactic| tb_start) => `(tactic| with_reducible refine' tabSelfK ?_)
local macro_rules | `(tactic| tb_start) => `(tactic| with_reducible refine' addK)
theorem t_plan_rows {rs : List R4} (ap : Ap4 rs) (hl : rs.length ≤ 100) : d__law_plan_rows [.dit (tab R4.k R4.v rs)] = .ret (oL ((srtBy R4.kd rs).map R4.d)) [.dit (tab R4.k R4.v rs)] := by
  have e1 := list_tab (rs := rs)
  have e2 := R4.sortK (rs := rs) (by omega)
  have sp := srt_perm R4.kd rs
  have hl2 := sp.length_eq
  unfold d__law_plan_rows
  (repeat' kbo_bools)
  rename_i x hx
  exact ⟨ap, sp.mem_iff.mp hx⟩
end Lw
end
end
section
set_option maxHeartbeats 0
open PySem L2 Den
local macro_rules | `(tactic| kcf_all) => `(tactic| (decide))
local macro_rules | `(tactic| kcf_all) => `(tactic| (simp only [List.length_map, List.length_append, List.length_cons, List.length_nil, List.length_reverse, List.length_range, List.length_take, List.length_drop, len_app, len1]; omega))
local macro_rules | `(tactic| kcf_all) => `(tactic| (omega))
local macro_rules | `(tactic| infer_instance) => `(tactic| (with_reducible show Sz _); unfold Sz; kcf_all)
local macro_rules | `(tactic| kcf_m) => `(tactic| (with_reducible exact at6))
local macro_rules | `(tactic| kcf_m) => `(tactic| (with_reducible exact at5))
local macro_rules | `(tactic| kcf_m) => `(tactic| (with_reducible exact at4))
local macro_rules | `(tactic| kcf_m) => `(tactic| (with_reducible exact at3))
local macro_rules | `(tactic| kcf_m) => `(tactic| (with_reducible exact at2))
local macro_rules | `(tactic| kcf_m) => `(tactic| (with_reducible exact at1))
local macro_rules | `(tactic| kcf_m) => `(tactic| (with_reducible exact at0))
local macro_rules | `(tactic| kcj_in) => `(tactic| (with_reducible exact st6))
local macro_rules | `(tactic| kcj_in) => `(tactic| (with_reducible exact st5))
local macro_rules | `(tactic| kcj_in) => `(tactic| (with_reducible exact st4))
local macro_rules | `(tactic| kcj_in) => `(tactic| (with_reducible exact st3))
local macro_rules | `(tactic| kcj_in) => `(tactic| (with_reducible exact st2))
local macro_rules | `(tactic| kcj_in) => `(tactic| (with_reducible exact st0))
local macro_rules | `(tactic| kcj_m) => `(tactic| (with_reducible exact fu6))
local macro_rules | `(tactic| kcj_m) => `(tactic| (with_reducible exact fu4))
local macro_rules | `(tactic| kcj_m) => `(tactic| (with_reducible exact fu3))
local macro_rules | `(tactic| kcj_m) => `(tactic| (with_reducible exact fu1))
local macro_rules | `(tactic| kcj_m) => `(tactic| (with_reducible exact fu0))
local macro_rules | `(tactic| fold_depth) => `(tactic| ((with_reducible show Em _ _); first | (with_reducible exact em0)))
local macro_rules | `(tactic| fold_depth) => `(tactic| ((with_reducible show Fu _ _); kcj_m))
local macro_rules | `(tactic| fold_depth) => `(tactic| ((with_reducible show St _ _ _ _); kcj_in))
local macro_rules | `(tactic| fold_depth) => `(tactic| ((with_reducible show At _ _ _); kcf_m))
local macro_rules | `(tactic| keq_rows) => `(tactic| (simp only [Den.isNon, Den.isBl, List.length_cons, List.length_nil, Nat.reduceAdd, Nat.zero_add, Int.cast_ofNat_Int, Int.reduceEq, Int.reduceLT, Int.reduceLE, Int.reduceNeg, decide_true, decide_false, Bool.not_true, Bool.not_false, Bool.and_true, Bool.true_and, Bool.and_false, Bool.false_and, Bool.or_true, Bool.true_or, Bool.or_false, Bool.false_or, List.isEmpty_nil, List.isEmpty_cons, reduceCtorEq, List.map_cons, List.map_nil]; done))
local macro_rules | `(tactic| keq_rows) => `(tactic| (with_reducible assumption))
local macro_rules | `(tactic| keq_rows) => `(tactic| (with_reducible rfl))
local macro_rules | `(tactic| kd_addB) => `(tactic| (with_reducible refine' op_addLL ?_ ?_))
local macro_rules | `(tactic| kd_addB) => `(tactic| (with_reducible refine' op_addT ?_ ?_))
local macro_rules | `(tactic| kd_addB) => `(tactic| (with_reducible refine' op_addI))
local macro_rules | `(tactic| kd_addW) => `(tactic| (with_reducible refine' list_T))
local macro_rules | `(tactic| kd_addW) => `(tactic| (with_reducible refine' neE_S))
local macro_rules | `(tactic| kd_addW) => `(tactic| (with_reducible refine' mulS_op ?_))
local macro_rules | `(tactic| kd_addW) => `(tactic| (with_reducible refine' op_neg))
local macro_rules | `(tactic| kd_addW) => `(tactic| (with_reducible refine' op_pow ?_))
local macro_rules | `(tactic| kd_addW) => `(tactic| ((with_reducible show gSl _ _ _ = _); first | (with_reducible refine' sl_T ?_) | (with_reducible refine' sl_S ?_)))
local macro_rules | `(tactic| kd_addW) => `(tactic| ((with_reducible show gIn _ _ = _); first | (with_reducible refine' op_in ?_)))
local macro_rules | `(tactic| kd_addW) => `(tactic| ((with_reducible show Den.gSub _ _ = _); first | (with_reducible refine' op_sub)))
local macro_rules | `(tactic| kd_addW) => `(tactic| ((with_reducible show gAdd _ _ = _); kd_addB))
local macro_rules | `(tactic| kd_addW) => `(tactic| ((with_reducible show gEq _ _ = _); first | (with_reducible refine' op_eq ?_)))
local macro_rules | `(tactic| kd_addW) => `(tactic| ((with_reducible show gLen _ = _); first | (with_reducible refine' len_S)))
local macro_rules | `(tactic| kd_addW) => `(tactic| (with_reducible assumption))
local macro_rules | `(tactic| tb_start) => `(tactic| first | ((with_reducible show _ = _); kd_addW))
local macro_rules | `(tactic| kd_adr) => `(tactic| (with_reducible refine' cut_frN))
local macro_rules | `(tactic| kd_adr) => `(tactic| (with_reducible refine' cut_toN))
local macro_rules | `(tactic| kd_adr) => `(tactic| (with_reducible refine' cut_to3))
local macro_rules | `(tactic| kd_adr) => `(tactic| (with_reducible refine' cut_to2))
local macro_rules | `(tactic| kd_adr) => `(tactic| (with_reducible refine' cut_to1))
local macro_rules | `(tactic| kd_adr) => `(tactic| (with_reducible refine' cut_to0))
local macro_rules | `(tactic| kd_adr) => `(tactic| (with_reducible refine' cut_fr4))
local macro_rules | `(tactic| kd_adr) => `(tactic| (with_reducible refine' cut_fr3))
local macro_rules | `(tactic| kd_adr) => `(tactic| (with_reducible refine' cut_fr2))
local macro_rules | `(tactic| kd_adr) => `(tactic| (with_reducible refine' cut_fr1))
local macro_rules | `(tactic| keq_hits) => `(tactic| first | ((with_reducible show _ = _); first | ((with_reducible show gEqD _ _ = _); first | (with_reducible refine' eq_ii)) | ((with_reducible show cutD _ _ _ = _); kd_adr)))
local macro_rules | `(tactic| kd_all) => `(tactic| (with_reducible exact ev_newD))
local macro_rules | `(tactic| kd_all) => `(tactic| (with_reducible refine' ev_if ?_ ?_))
local macro_rules | `(tactic| kd_all) => `(tactic| (with_reducible refine' ev_slx ?_ ?_ ?_ ?_))
local macro_rules | `(tactic| kd_all) => `(tactic| (with_reducible refine' ev_slp ?_ ?_ ?_ ?_ ?_))
local macro_rules | `(tactic| kd_all) => `(tactic| (with_reducible refine' ev_call ?_ ?_ ?_ ?_ ?_))
local macro_rules | `(tactic| kd_all) => `(tactic| (with_reducible refine' ev_lst ?_ ?_))
local macro_rules | `(tactic| kd_all) => `(tactic| (with_reducible refine' ev_tup ?_ ?_))
local macro_rules | `(tactic| kd_all) => `(tactic| (with_reducible refine' ev_fz ?_ ?_))
local macro_rules | `(tactic| kd_all) => `(tactic| (with_reducible refine' ev_op1 ?_ ?_))
local macro_rules | `(tactic| kd_all) => `(tactic| (with_reducible refine' ev_op2 ?_ ?_))
local macro_rules | `(tactic| kd_all) => `(tactic| ((with_reducible refine' ev_var ?_); fold_depth))
local macro_rules | `(tactic| kd_all) => `(tactic| (with_reducible exact ev_c))
local macro_rules | `(tactic| kd_facts) => `(tactic| (with_reducible refine' evo_p ?_ ?_ ?_))
local macro_rules | `(tactic| kd_facts) => `(tactic| (with_reducible refine' evo_x ?_ ?_))
local macro_rules | `(tactic| kd_facts) => `(tactic| (with_reducible exact evo_0))
local macro_rules | `(tactic| kd_facts1) => `(tactic| (with_reducible refine' eva_p ?_ ?_))
local macro_rules | `(tactic| kd_facts1) => `(tactic| (with_reducible refine' eva_x ?_ ?_))
local macro_rules | `(tactic| kd_facts1) => `(tactic| (with_reducible exact eva_0))
local macro_rules | `(tactic| kd_in) => `(tactic| (with_reducible exact fz_2))
local macro_rules | `(tactic| kd_in) => `(tactic| (with_reducible exact fz_1))
local macro_rules | `(tactic| kd_in) => `(tactic| (with_reducible assumption))
local macro_rules | `(tactic| kd_mem) => `(tactic| (with_reducible refine' tak_p ?_ ?_ ?_ ?_))
local macro_rules | `(tactic| kd_mem) => `(tactic| ((with_reducible refine' tak_s ?a ?_); (case a => fold_depth)))
local macro_rules | `(tactic| kd_mem) => `(tactic| (with_reducible refine' tak_o ?_))
local macro_rules | `(tactic| kd_mem) => `(tactic| (with_reducible exact tak_0))
local macro_rules | `(tactic| kd_p) => `(tactic| (with_reducible refine' giv_p ?_ ?_ ?_))
local macro_rules | `(tactic| kd_p) => `(tactic| ((with_reducible refine' giv_s ?a ?_); (case a => fold_depth)))
local macro_rules | `(tactic| kd_p) => `(tactic| (with_reducible refine' giv_o ?_))
local macro_rules | `(tactic| kd_p) => `(tactic| (with_reducible exact giv_0))
local macro_rules | `(tactic| kd_p1) => `(tactic| (with_reducible exact app_n))
local macro_rules | `(tactic| kd_p1) => `(tactic| (with_reducible refine' app_c ?_))
local macro_rules | `(tactic| kd_p1) => `(tactic| (with_reducible exact app_e))
local macro_rules | `(tactic| kd_p1) => `(tactic| (with_reducible exact app_0))
local macro_rules | `(tactic| kd_subs) => `(tactic| (with_reducible refine' andr_g ?_))
local macro_rules | `(tactic| kd_subs) => `(tactic| ((with_reducible refine' andr_t ?b ?_); (case b => keq_rows)))
local macro_rules | `(tactic| kd_subs) => `(tactic| ((with_reducible refine' andr_f ?b); (case b => keq_rows)))
local macro_rules | `(tactic| ke_read) => `(tactic| (with_reducible refine' ini_n ?_))
local macro_rules | `(tactic| ke_read) => `(tactic| (with_reducible refine' ini_t ?_))
local macro_rules | `(tactic| ke_read) => `(tactic| (with_reducible exact ini_0))
local macro_rules | `(tactic| ke_reads) => `(tactic| (keq_hits))
local macro_rules | `(tactic| ke_reads) => `(tactic| (tb_start))
local macro_rules | `(tactic| ke_reads) => `(tactic| (infer_instance))
local macro_rules | `(tactic| ke_reads) => `(tactic| ((with_reducible show (_ : Prop)); with_reducible intro _))
local macro_rules | `(tactic| ke_reads) => `(tactic| ((with_reducible show _ = FRes.ret _ _); first | (with_reducible assumption)))
local macro_rules | `(tactic| ke_reads) => `(tactic| (fold_depth))
local macro_rules | `(tactic| ke_reads) => `(tactic| ((with_reducible show Outs _ _ _ _); first | (with_reducible exact outs_0) | (with_reducible refine' outs_t ?_)))
local macro_rules | `(tactic| ke_reads) => `(tactic| ((with_reducible show Ini _ _ _ _); ke_read))
local macro_rules | `(tactic| ke_reads) => `(tactic| ((with_reducible show IfV _ _ _ _ _ _); first | ((with_reducible refine' ifv_t ?b ?_); (case b => keq_rows)) | ((with_reducible refine' ifv_f ?b ?_); (case b => keq_rows))))
local macro_rules | `(tactic| ke_reads) => `(tactic| ((with_reducible show AndR _ _ _ _ _); kd_subs))
local macro_rules | `(tactic| ke_reads) => `(tactic| ((with_reducible show Lis _ _); first | (with_reducible exact lis_0) | (with_reducible refine' lis_s ?_)))
local macro_rules | `(tactic| ke_reads) => `(tactic| ((with_reducible show App _ _ _); kd_p1))
local macro_rules | `(tactic| ke_reads) => `(tactic| ((with_reducible show Nl _ _); first | (unfold Nl; simp only [List.length_cons, List.length_nil, Nat.reduceAdd, Nat.zero_add, Int.cast_ofNat_Int, Int.reduceAdd, Int.reduceSub, Int.reduceNeg]; with_reducible rfl) | (with_reducible exact nl_0)))
local macro_rules | `(tactic| ke_reads) => `(tactic| ((with_reducible show Giv _ _ _ _); kd_p))
local macro_rules | `(tactic| ke_reads) => `(tactic| ((with_reducible show Tak _ _ _ _); kd_mem))
local macro_rules | `(tactic| ke_reads) => `(tactic| ((with_reducible show Own _); first | (with_reducible exact own_pen)))
local macro_rules | `(tactic| ke_reads) => `(tactic| ((with_reducible show Fz _ _); kd_in))
local macro_rules | `(tactic| ke_reads) => `(tactic| ((with_reducible show EvP _ _ _ _); first | (with_reducible exact evp_0) | (with_reducible refine' evp_1 ?_ ?_)))
local macro_rules | `(tactic| ke_reads) => `(tactic| ((with_reducible show EvA _ _ _ _); kd_facts1))
local macro_rules | `(tactic| ke_reads) => `(tactic| ((with_reducible show EvS _ _ _ _); first | (with_reducible exact evs_0) | (with_reducible refine' evs_x ?_ ?_)))
local macro_rules | `(tactic| ke_reads) => `(tactic| ((with_reducible show EvO _ _ _ _); kd_facts))
local macro_rules | `(tactic| ke_reads) => `(tactic| ((with_reducible show EvT _ _ _ _); first | (with_reducible refine' evt_b ?_) | (with_reducible refine' evt_and ?_ ?_)))
local macro_rules | `(tactic| ke_reads) => `(tactic| ((with_reducible show Ev _ _ _ _); kd_all))
local macro_rules | `(tactic| kat_tups) => `(tactic| (with_reducible show (_ : Prop)); ke_reads)
local macro_rules | `(tactic| tb_rel) => `(tactic| (kat_tups; all_goals tb_rel))
local macro_rules | `(tactic| tb_rel) => `(tactic| (fail_if_success (with_reducible show (_ : Prop))))
local macro_rules | `(tactic| kbo_bools) => `(tactic| ((with_reducible refine' fq_def ?i ?k); (case' i => tb_rel)))
local macro_rules | `(tactic| kbo_bools) => `(tactic| ((with_reducible refine' dk_ret ?o ?q); (case' o => tb_rel)))
local macro_rules | `(tactic| kbo_bools) => `(tactic| (with_reducible refine' pws_nx ?_))
local macro_rules | `(tactic| kbo_bools) => `(tactic| ((with_reducible refine' pws_par ?e ?f ?s ?t ?k); (case' e => tb_rel); (case' f => tb_rel); (case' s => tb_rel); (case' t => tb_rel)))
local macro_rules | `(tactic| kbo_bools) => `(tactic| ((with_reducible refine' pw_ret ?e ?k); (case' e => tb_rel)))
local macro_rules | `(tactic| kbo_bools) => `(tactic| ((with_reducible refine' pws_ret ?e ?k); (case' e => tb_rel)))
local macro_rules | `(tactic| kbo_bools) => `(tactic| ((with_reducible refine' pws_if ?e ?k); (case' e => tb_rel); (case' k => first | ((with_reducible refine' ifr_t ?b ?k2); (case b => keq_rows)) | ((with_reducible refine' ifr_f ?b ?k2); (case b => keq_rows)))))
local macro_rules | `(tactic| kbo_bools) => `(tactic| ((with_reducible refine' pws_set ?e ?s ?k); (case' e => tb_rel); (case' s => tb_rel)))
section
open PySem L2 Den
namespace Lw

local macro_rules | `(tactic| tb_start) => `(tactic| with_reducible refine' lf_name ?_)
local macro_rules | `(tactic| tb_start) => `(tactic| with_reducible refine' lf_lname ?_)
local macro_rules | `(tactic| tb_start) => `(tactic| with_reducible refine' lf_whole ?_)
local macro_rules | `(tactic| tb_start) => `(tactic| with_reducible refine' lf_number ?_)
local macro_rules | `(tactic| tb_start) => `(tactic| with_reducible refine' R4.sl2)
local macro_rules | `(tactic| tb_start) => `(tactic| with_reducible refine' R4.sl2f)
local macro_rules | `(tactic| tb_start) => `(tactic| with_reducible refine' R4.sl3)
local macro_rules | `(tactic| tb_start) => `(tactic| with_reducible refine' R4.ix0)
local macro_rules | `(tactic| tb_start) => `(tactic| with_reducible refine' R4.ix1)
local macro_rules | `(tactic| tb_start) => `(tactic| with_reducible refine' R4.ix2)
local macro_rules | `(tactic| tb_start) => `(tactic| with_reducible refine' R4.ix3)
local macro_rules | `(tactic| keq_hits) => `(tactic| with_reducible refine' R4.inKeys ?_)
local macro_rules | `(tactic| tb_start) => `(tactic| with_reducible refine' t_listed_L)
local macro_rules | `(tactic| tb_start) => `(tactic| with_reducible refine' t_listed_l)
local macro_rules | `(tactic| tb_start) => `(tactic| with_reducible refine' t_listed_t)
local macro_rules | `(tactic| tb_start) => `(tactic| with_reducible refine' t_r4_row ?_)
local macro_rules | `(tactic| tb_start) => `(tactic| with_reducible refine' fld_rows)
local macro_rules | `(tactic| tb_start) => `(tactic| with_reducible refine' fld_told)
local macro_rules | `(tactic| tb_start) => `(tactic| with_reducible refine' isC_plan)
local macro_rules | `(tactic| tb_start) => `(tactic| with_reducible refine' R4.tabIx ?_)
local macro_rules | `(tactic| tb_start) => `(tactic| with_reducible refine' R4.tabGet)
local macro_rules | `(tactic| keq_hits) => `(tactic| with_reducible refine' R4.eqRows ?_)
local macro_rules | `(tactic| keq_hits) => `(tactic| with_reducible refine' R4.tabIn)
local macro_rules | `(tactic| tb_start) => `(tactic| with_reducible refine' t_whole0 ?_)
local macro_rules | `(tactic| tb_start) => `(tactic| with_reducible refine' tabSelfK ?_)
local macro_rules | `(tactic| tb_start) => `(tactic| with_reducible refine' addK)
theorem lf_of {ds : List D} {k : Nat} {d : D} (h : ∀ e ∈ ds, Lf e) (hk : ds[k]? = some d) : Lf d := h d (List.mem_of_getElem? hk)
theorem lf1 : ∀ e ∈ ([.int (-1), .non, .bl true, .str "0", .int ((10 : Int) ^ Int.toNat 40), .int ((10 : Int) ^ Int.toNat 40 - 1)] : List D), Lf e := by
  intro e he
  simp only [List.mem_cons, List.not_mem_nil, or_false] at he
  rcases he with rfl | rfl | rfl | rfl | rfl | rfl <;> first | trivial | (show _ ≤ _; decide)
theorem lf2 : ∀ e ∈ ([.str "", .str "1a", .str "A", .str "a b", .str (Txt.mul "a" 13), .non, .int 5] : List D), Lf e := by
  intro e he
  simp only [List.mem_cons, List.not_mem_nil, or_false] at he
  rcases he with rfl | rfl | rfl | rfl | rfl | rfl | rfl <;> first | trivial | (show _ ≤ _; decide)
def Scal (v : D) : Prop := v = .non ∨ v = .int 5 ∨ v = .str "ab" ∨ v = .dic [] ∨ v = .bl true
theorem rowC_tup {ds : List D} (h : ∀ e ∈ ds, Lf e) (hl : ds.length ≤ 1000 := by simp) : RowC (.tup ds) := .inr ⟨ds, .inl rfl, h, hl⟩
theorem rowC_lst {ds : List D} (h : ∀ e ∈ ds, Lf e) (hl : ds.length ≤ 1000 := by simp) : RowC (.lst ds) := .inr ⟨ds, .inr rfl, h, hl⟩
theorem lf_str {z : Str} (h : z.length ≤ 1000) : Lf (.str z) := h
theorem t_bent0 {B i : Nat} {p p1 p2 : Pen} {rs : List R4} (hp : p2.Ok (B + 2)) (hB : B + 20 < 1099511627775) (hrs : ∀ r ∈ rs, r.ok) (hl : rs.length ≤ 13) (hi : i ≤ rs.length)
    (e1 : d__law_draw [penO p, .sh (.int (((rs.map R4.d).length : Int) + 1))] = .ret (.sh (.int (i : Int))) [penO p1, .sh (.int (((rs.map R4.d).length : Int) + 1))])
    (e2 : d__law_draw [penO p1, .sh (.int 4)] = .ret (.sh (.int 0)) [penO p2, .sh (.int 4)]) :
    Fq (d__law_bent [penO p, .sh (.lst (rs.map R4.d))]) fun r => ∃ (V : O) (p' : Pen), r = .ret V [penO p', .sh (.lst (rs.map R4.d))] ∧ p'.Ok (B + 10) ∧ ((∃ v, V = .sh v ∧ Scal v) ∨ ∃ (x : D) (k : Nat), V = oL ((rs.map R4.d).take k ++ [x] ++ (rs.map R4.d).drop k) ∧ RowC x) := by
  obtain ⟨k3, odd, p3, e3, hk3, hp3⟩ := t_pick (S := oL [.str "", .str "1a", .str "A", .str "a b", .str (Txt.mul "a" 13), .non, .int 5]) (ds := [.str "", .str "1a", .str "A", .str "a b", .str (Txt.mul "a" 13), .non, .int 5]) hp (by omega) (by simp) (by simp) len_L (fun k d h => op_ixL (ix_nat h))
  have hodd : Lf odd := lf_of lf2 hk3
  have hin : inG (.sh (.int 0)) (oL [.int 1, .int 3]) = some false := rfl
  obtain ⟨w, p4, e4, w0, w1, hp4⟩ := t_draw (many := 6) hp3 (by omega) (by omega)
  obtain ⟨w, rfl⟩ := Int.eq_ofNat_of_zero_le w0
  have hm : Sz (0 ≤ (13 : Int) ∧ (13 : Int) ≤ 1000 ∧ ("a" : Str).length ≤ 1000) := ⟨by omega, by omega, by decide⟩
  unfold d__law_bent
  by_cases c0 : w = 0 ∧ rs ≠ []
  · obtain ⟨rfl, hne⟩ := c0
    obtain ⟨k5, r5, p5, e5, hk5, hp5⟩ := t_pick (S := .sh (.lst (rs.map R4.d))) (ds := rs.map R4.d) hp4 (by omega) (by simpa using hne) (by simp; omega) len_S (fun k d h => op_ixS (ix_nat h))
    obtain ⟨r, hr, rfl⟩ := List.mem_map.mp (List.mem_of_getElem? hk5)
    have hr2 := name_ok (hrs r hr).1
    have d0 : decide (((0 : Nat) : Int) = 0) = true := rfl
    have d1 : decide (((0 : Nat) : Int) = 1) = false := rfl
    have d2 : decide (((0 : Nat) : Int) = 2) = false := rfl
    have de : (!(rs.map R4.d).isEmpty) = true := by cases rs with
      | nil => exact (hne rfl).elim
      | cons => rfl
    (first | (repeat' kbo_bools) | fail)
    refine ⟨_, p5, rfl, hp5.mono (by omega), .inr ⟨_, i, rfl, rowC_tup fun e he => ?_⟩⟩
    simp only [List.mem_cons, List.not_mem_nil, or_false] at he
    rcases he with rfl | rfl | rfl | rfl <;> first | trivial | (show _ ≤ _; first | omega | decide)
  · have d0 : (decide ((w : Int) = 0) && !(rs.map R4.d).isEmpty) = false := by
      cases rs with
      | nil => simp
      | cons x xs =>
        have : ¬ w = 0 := fun z => c0 ⟨z, by simp⟩
        have : decide ((w : Int) = 0) = false := decide_eq_false (by omega)
        rw [this]
        rfl
    by_cases c1 : w = 1
    · subst c1
      have d1 : decide (((1 : Nat) : Int) = 1) = true := rfl
      have d2 : decide (((1 : Nat) : Int) = 2) = false := rfl
      obtain ⟨k5, x, p5, e5, hk5, hp5⟩ := t_pick (S := oL [.lst [odd, .int 77, .str "cd", .int 1],  .tup [odd, .int 77, .str "cd"], .tup [odd, .int 77, .str "cd", .int 1, .int 1], .non, .str "ab", .tup []]) (ds := [.lst [odd, .int 77, .str "cd", .int 1],  .tup [odd, .int 77, .str "cd"], .tup [odd, .int 77, .str "cd", .int 1, .int 1], .non, .str "ab", .tup []]) hp4 (by omega) (by simp) (by simp) len_L (fun k d h => op_ixL (ix_nat h))
      (first | (repeat' kbo_bools) | fail)
      refine ⟨_, p5, rfl, hp5.mono (by omega), .inr ⟨x, i, rfl, ?_⟩⟩
      have hx := List.mem_of_getElem? hk5
      simp only [List.mem_cons, List.not_mem_nil, or_false] at hx
      rcases hx with rfl | rfl | rfl | rfl | rfl | rfl
      · refine rowC_lst fun e he => ?_
        simp only [List.mem_cons, List.not_mem_nil, or_false] at he
        rcases he with rfl | rfl | rfl | rfl <;> first | trivial | assumption | (show _ ≤ _; decide)
      · refine rowC_tup fun e he => ?_
        simp only [List.mem_cons, List.not_mem_nil, or_false] at he
        rcases he with rfl | rfl | rfl <;> first | trivial | assumption | (show _ ≤ _; decide)
      · refine rowC_tup fun e he => ?_
        simp only [List.mem_cons, List.not_mem_nil, or_false] at he
        rcases he with rfl | rfl | rfl | rfl | rfl <;> first | trivial | assumption | (show _ ≤ _; decide)
      · exact .inl trivial
      · exact .inl (by show _ ≤ _; decide)
      · exact rowC_tup fun e he => by cases he
    · have d1 : decide ((w : Int) = 1) = false := decide_eq_false (by omega)
      by_cases c2 : w = 2
      · subst c2
        have d2 : decide (((2 : Nat) : Int) = 2) = true := rfl
        obtain ⟨k5, x, p5, e5, hk5, hp5⟩ := t_pick (S := oL [.non, .int 5, .str "ab", .dic [], .bl true]) (ds := [.non, .int 5, .str "ab", .dic [], .bl true]) hp4 (by omega) (by simp) (by simp) len_L (fun k d h => op_ixL (ix_nat h))
        have hfz : Fz (.dic []) (.dic []) := by unfold Fz; rw [fz]; rfl
        (first | (repeat' kbo_bools) | fail)
        refine ⟨_, p5, rfl, hp5.mono (by omega), .inl ⟨x, rfl, ?_⟩⟩
        have hx := List.mem_of_getElem? hk5
        simp only [List.mem_cons, List.not_mem_nil, or_false] at hx
        exact hx
      · have d2 : decide ((w : Int) = 2) = false := decide_eq_false (by omega)
        (first | (repeat' kbo_bools) | fail)
        refine ⟨_, p4, rfl, hp4.mono (by omega), .inr ⟨_, i, rfl, rowC_tup fun e he => ?_⟩⟩
        simp only [List.mem_cons, List.not_mem_nil, or_false] at he
        rcases he with rfl | rfl | rfl | rfl <;> first | trivial | assumption | (show _ ≤ _; decide)
theorem t_bent1 {B i : Nat} {p p1 p2 : Pen} {rs : List R4} (hp : p2.Ok (B + 2)) (hB : B + 20 < 1099511627775) (hrs : ∀ r ∈ rs, r.ok) (hl : rs.length ≤ 13) (hi : i ≤ rs.length)
    (e1 : d__law_draw [penO p, .sh (.int (((rs.map R4.d).length : Int) + 1))] = .ret (.sh (.int (i : Int))) [penO p1, .sh (.int (((rs.map R4.d).length : Int) + 1))])
    (e2 : d__law_draw [penO p1, .sh (.int 4)] = .ret (.sh (.int 1)) [penO p2, .sh (.int 4)]) :
    Fq (d__law_bent [penO p, .sh (.lst (rs.map R4.d))]) fun r => ∃ (V : O) (p' : Pen), r = .ret V [penO p', .sh (.lst (rs.map R4.d))] ∧ p'.Ok (B + 10) ∧ ((∃ v, V = .sh v ∧ Scal v) ∨ ∃ (x : D) (k : Nat), V = oL ((rs.map R4.d).take k ++ [x] ++ (rs.map R4.d).drop k) ∧ RowC x) := by
  obtain ⟨k3, odd, p3, e3, hk3, hp3⟩ := t_pick (S := oL [.int (-1), .non, .bl true, .str "0", .int ((10 : Int) ^ Int.toNat 40), .int ((10 : Int) ^ Int.toNat 40 - 1)]) (ds := [.int (-1), .non, .bl true, .str "0", .int ((10 : Int) ^ Int.toNat 40), .int ((10 : Int) ^ Int.toNat 40 - 1)]) hp (by omega) (by simp) (by simp) len_L (fun k d h => op_ixL (ix_nat h))
  have hodd : Lf odd := lf_of lf1 hk3
  have hin : inG (.sh (.int 1)) (oL [.int 1, .int 3]) = some true := rfl
  obtain ⟨w, p4, e4, w0, w1, hp4⟩ := t_draw (many := 6) hp3 (by omega) (by omega)
  obtain ⟨w, rfl⟩ := Int.eq_ofNat_of_zero_le w0
  have hm : Sz (0 ≤ (13 : Int) ∧ (13 : Int) ≤ 1000 ∧ ("a" : Str).length ≤ 1000) := ⟨by omega, by omega, by decide⟩
  unfold d__law_bent
  by_cases c0 : w = 0 ∧ rs ≠ []
  · obtain ⟨rfl, hne⟩ := c0
    obtain ⟨k5, r5, p5, e5, hk5, hp5⟩ := t_pick (S := .sh (.lst (rs.map R4.d))) (ds := rs.map R4.d) hp4 (by omega) (by simpa using hne) (by simp; omega) len_S (fun k d h => op_ixS (ix_nat h))
    obtain ⟨r, hr, rfl⟩ := List.mem_map.mp (List.mem_of_getElem? hk5)
    have hr2 := name_ok (hrs r hr).1
    have d0 : decide (((0 : Nat) : Int) = 0) = true := rfl
    have d1 : decide (((0 : Nat) : Int) = 1) = false := rfl
    have d2 : decide (((0 : Nat) : Int) = 2) = false := rfl
    have de : (!(rs.map R4.d).isEmpty) = true := by cases rs with
      | nil => exact (hne rfl).elim
      | cons => rfl
    (first | (repeat' kbo_bools) | fail)
    refine ⟨_, p5, rfl, hp5.mono (by omega), .inr ⟨_, i, rfl, rowC_tup fun e he => ?_⟩⟩
    simp only [List.mem_cons, List.not_mem_nil, or_false] at he
    rcases he with rfl | rfl | rfl | rfl <;> first | trivial | (show _ ≤ _; first | omega | decide)
  · have d0 : (decide ((w : Int) = 0) && !(rs.map R4.d).isEmpty) = false := by
      cases rs with
      | nil => simp
      | cons x xs =>
        have : ¬ w = 0 := fun z => c0 ⟨z, by simp⟩
        have : decide ((w : Int) = 0) = false := decide_eq_false (by omega)
        rw [this]
        rfl
    by_cases c1 : w = 1
    · subst c1
      have d1 : decide (((1 : Nat) : Int) = 1) = true := rfl
      have d2 : decide (((1 : Nat) : Int) = 2) = false := rfl
      obtain ⟨k5, x, p5, e5, hk5, hp5⟩ := t_pick (S := oL [.lst [.str "ab", odd, .str "cd", .int 1],  .tup [.str "ab", odd, .str "cd"], .tup [.str "ab", odd, .str "cd", .int 1, .int 1], .non, .str "ab", .tup []]) (ds := [.lst [.str "ab", odd, .str "cd", .int 1],  .tup [.str "ab", odd, .str "cd"], .tup [.str "ab", odd, .str "cd", .int 1, .int 1], .non, .str "ab", .tup []]) hp4 (by omega) (by simp) (by simp) len_L (fun k d h => op_ixL (ix_nat h))
      (first | (repeat' kbo_bools) | fail)
      refine ⟨_, p5, rfl, hp5.mono (by omega), .inr ⟨x, i, rfl, ?_⟩⟩
      have hx := List.mem_of_getElem? hk5
      simp only [List.mem_cons, List.not_mem_nil, or_false] at hx
      rcases hx with rfl | rfl | rfl | rfl | rfl | rfl
      · refine rowC_lst fun e he => ?_
        simp only [List.mem_cons, List.not_mem_nil, or_false] at he
        rcases he with rfl | rfl | rfl | rfl <;> first | trivial | assumption | (show _ ≤ _; decide)
      · refine rowC_tup fun e he => ?_
        simp only [List.mem_cons, List.not_mem_nil, or_false] at he
        rcases he with rfl | rfl | rfl <;> first | trivial | assumption | (show _ ≤ _; decide)
      · refine rowC_tup fun e he => ?_
        simp only [List.mem_cons, List.not_mem_nil, or_false] at he
        rcases he with rfl | rfl | rfl | rfl | rfl <;> first | trivial | assumption | (show _ ≤ _; decide)
      · exact .inl trivial
      · exact .inl (by show _ ≤ _; decide)
      · exact rowC_tup fun e he => by cases he
    · have d1 : decide ((w : Int) = 1) = false := decide_eq_false (by omega)
      by_cases c2 : w = 2
      · subst c2
        have d2 : decide (((2 : Nat) : Int) = 2) = true := rfl
        obtain ⟨k5, x, p5, e5, hk5, hp5⟩ := t_pick (S := oL [.non, .int 5, .str "ab", .dic [], .bl true]) (ds := [.non, .int 5, .str "ab", .dic [], .bl true]) hp4 (by omega) (by simp) (by simp) len_L (fun k d h => op_ixL (ix_nat h))
        have hfz : Fz (.dic []) (.dic []) := by unfold Fz; rw [fz]; rfl
        (first | (repeat' kbo_bools) | fail)
        refine ⟨_, p5, rfl, hp5.mono (by omega), .inl ⟨x, rfl, ?_⟩⟩
        have hx := List.mem_of_getElem? hk5
        simp only [List.mem_cons, List.not_mem_nil, or_false] at hx
        exact hx
      · have d2 : decide ((w : Int) = 2) = false := decide_eq_false (by omega)
        (first | (repeat' kbo_bools) | fail)
        refine ⟨_, p4, rfl, hp4.mono (by omega), .inr ⟨_, i, rfl, rowC_tup fun e he => ?_⟩⟩
        simp only [List.mem_cons, List.not_mem_nil, or_false] at he
        rcases he with rfl | rfl | rfl | rfl <;> first | trivial | assumption | (show _ ≤ _; decide)
theorem t_bent2 {B i : Nat} {p p1 p2 : Pen} {rs : List R4} (hp : p2.Ok (B + 2)) (hB : B + 20 < 1099511627775) (hrs : ∀ r ∈ rs, r.ok) (hl : rs.length ≤ 13) (hi : i ≤ rs.length)
    (e1 : d__law_draw [penO p, .sh (.int (((rs.map R4.d).length : Int) + 1))] = .ret (.sh (.int (i : Int))) [penO p1, .sh (.int (((rs.map R4.d).length : Int) + 1))])
    (e2 : d__law_draw [penO p1, .sh (.int 4)] = .ret (.sh (.int 2)) [penO p2, .sh (.int 4)]) :
    Fq (d__law_bent [penO p, .sh (.lst (rs.map R4.d))]) fun r => ∃ (V : O) (p' : Pen), r = .ret V [penO p', .sh (.lst (rs.map R4.d))] ∧ p'.Ok (B + 10) ∧ ((∃ v, V = .sh v ∧ Scal v) ∨ ∃ (x : D) (k : Nat), V = oL ((rs.map R4.d).take k ++ [x] ++ (rs.map R4.d).drop k) ∧ RowC x) := by
  obtain ⟨k3, odd, p3, e3, hk3, hp3⟩ := t_pick (S := oL [.str "", .str "1a", .str "A", .str "a b", .str (Txt.mul "a" 13), .non, .int 5]) (ds := [.str "", .str "1a", .str "A", .str "a b", .str (Txt.mul "a" 13), .non, .int 5]) hp (by omega) (by simp) (by simp) len_L (fun k d h => op_ixL (ix_nat h))
  have hodd : Lf odd := lf_of lf2 hk3
  have hin : inG (.sh (.int 2)) (oL [.int 1, .int 3]) = some false := rfl
  obtain ⟨w, p4, e4, w0, w1, hp4⟩ := t_draw (many := 6) hp3 (by omega) (by omega)
  obtain ⟨w, rfl⟩ := Int.eq_ofNat_of_zero_le w0
  have hm : Sz (0 ≤ (13 : Int) ∧ (13 : Int) ≤ 1000 ∧ ("a" : Str).length ≤ 1000) := ⟨by omega, by omega, by decide⟩
  unfold d__law_bent
  by_cases c0 : w = 0 ∧ rs ≠ []
  · obtain ⟨rfl, hne⟩ := c0
    obtain ⟨k5, r5, p5, e5, hk5, hp5⟩ := t_pick (S := .sh (.lst (rs.map R4.d))) (ds := rs.map R4.d) hp4 (by omega) (by simpa using hne) (by simp; omega) len_S (fun k d h => op_ixS (ix_nat h))
    obtain ⟨r, hr, rfl⟩ := List.mem_map.mp (List.mem_of_getElem? hk5)
    have hr2 := name_ok (hrs r hr).1
    have d0 : decide (((0 : Nat) : Int) = 0) = true := rfl
    have d1 : decide (((0 : Nat) : Int) = 1) = false := rfl
    have d2 : decide (((0 : Nat) : Int) = 2) = false := rfl
    have de : (!(rs.map R4.d).isEmpty) = true := by cases rs with
      | nil => exact (hne rfl).elim
      | cons => rfl
    (first | (repeat' kbo_bools) | fail)
    refine ⟨_, p5, rfl, hp5.mono (by omega), .inr ⟨_, i, rfl, rowC_tup fun e he => ?_⟩⟩
    simp only [List.mem_cons, List.not_mem_nil, or_false] at he
    rcases he with rfl | rfl | rfl | rfl <;> first | trivial | (show _ ≤ _; first | omega | decide)
  · have d0 : (decide ((w : Int) = 0) && !(rs.map R4.d).isEmpty) = false := by
      cases rs with
      | nil => simp
      | cons x xs =>
        have : ¬ w = 0 := fun z => c0 ⟨z, by simp⟩
        have : decide ((w : Int) = 0) = false := decide_eq_false (by omega)
        rw [this]
        rfl
    by_cases c1 : w = 1
    · subst c1
      have d1 : decide (((1 : Nat) : Int) = 1) = true := rfl
      have d2 : decide (((1 : Nat) : Int) = 2) = false := rfl
      obtain ⟨k5, x, p5, e5, hk5, hp5⟩ := t_pick (S := oL [.lst [.str "ab", .int 77, odd, .int 1],  .tup [.str "ab", .int 77, odd], .tup [.str "ab", .int 77, odd, .int 1, .int 1], .non, .str "ab", .tup []]) (ds := [.lst [.str "ab", .int 77, odd, .int 1],  .tup [.str "ab", .int 77, odd], .tup [.str "ab", .int 77, odd, .int 1, .int 1], .non, .str "ab", .tup []]) hp4 (by omega) (by simp) (by simp) len_L (fun k d h => op_ixL (ix_nat h))
      (first | (repeat' kbo_bools) | fail)
      refine ⟨_, p5, rfl, hp5.mono (by omega), .inr ⟨x, i, rfl, ?_⟩⟩
      have hx := List.mem_of_getElem? hk5
      simp only [List.mem_cons, List.not_mem_nil, or_false] at hx
      rcases hx with rfl | rfl | rfl | rfl | rfl | rfl
      · refine rowC_lst fun e he => ?_
        simp only [List.mem_cons, List.not_mem_nil, or_false] at he
        rcases he with rfl | rfl | rfl | rfl <;> first | trivial | assumption | (show _ ≤ _; decide)
      · refine rowC_tup fun e he => ?_
        simp only [List.mem_cons, List.not_mem_nil, or_false] at he
        rcases he with rfl | rfl | rfl <;> first | trivial | assumption | (show _ ≤ _; decide)
      · refine rowC_tup fun e he => ?_
        simp only [List.mem_cons, List.not_mem_nil, or_false] at he
        rcases he with rfl | rfl | rfl | rfl | rfl <;> first | trivial | assumption | (show _ ≤ _; decide)
      · exact .inl trivial
      · exact .inl (by show _ ≤ _; decide)
      · exact rowC_tup fun e he => by cases he
    · have d1 : decide ((w : Int) = 1) = false := decide_eq_false (by omega)
      by_cases c2 : w = 2
      · subst c2
        have d2 : decide (((2 : Nat) : Int) = 2) = true := rfl
        obtain ⟨k5, x, p5, e5, hk5, hp5⟩ := t_pick (S := oL [.non, .int 5, .str "ab", .dic [], .bl true]) (ds := [.non, .int 5, .str "ab", .dic [], .bl true]) hp4 (by omega) (by simp) (by simp) len_L (fun k d h => op_ixL (ix_nat h))
        have hfz : Fz (.dic []) (.dic []) := by unfold Fz; rw [fz]; rfl
        (first | (repeat' kbo_bools) | fail)
        refine ⟨_, p5, rfl, hp5.mono (by omega), .inl ⟨x, rfl, ?_⟩⟩
        have hx := List.mem_of_getElem? hk5
        simp only [List.mem_cons, List.not_mem_nil, or_false] at hx
        exact hx
      · have d2 : decide ((w : Int) = 2) = false := decide_eq_false (by omega)
        (first | (repeat' kbo_bools) | fail)
        refine ⟨_, p4, rfl, hp4.mono (by omega), .inr ⟨_, i, rfl, rowC_tup fun e he => ?_⟩⟩
        simp only [List.mem_cons, List.not_mem_nil, or_false] at he
        rcases he with rfl | rfl | rfl | rfl <;> first | trivial | assumption | (show _ ≤ _; decide)
theorem t_bent3 {B i : Nat} {p p1 p2 : Pen} {rs : List R4} (hp : p2.Ok (B + 2)) (hB : B + 20 < 1099511627775) (hrs : ∀ r ∈ rs, r.ok) (hl : rs.length ≤ 13) (hi : i ≤ rs.length)
    (e1 : d__law_draw [penO p, .sh (.int (((rs.map R4.d).length : Int) + 1))] = .ret (.sh (.int (i : Int))) [penO p1, .sh (.int (((rs.map R4.d).length : Int) + 1))])
    (e2 : d__law_draw [penO p1, .sh (.int 4)] = .ret (.sh (.int 3)) [penO p2, .sh (.int 4)]) :
    Fq (d__law_bent [penO p, .sh (.lst (rs.map R4.d))]) fun r => ∃ (V : O) (p' : Pen), r = .ret V [penO p', .sh (.lst (rs.map R4.d))] ∧ p'.Ok (B + 10) ∧ ((∃ v, V = .sh v ∧ Scal v) ∨ ∃ (x : D) (k : Nat), V = oL ((rs.map R4.d).take k ++ [x] ++ (rs.map R4.d).drop k) ∧ RowC x) := by
  obtain ⟨k3, odd, p3, e3, hk3, hp3⟩ := t_pick (S := oL [.int (-1), .non, .bl true, .str "0", .int ((10 : Int) ^ Int.toNat 40), .int ((10 : Int) ^ Int.toNat 40 - 1)]) (ds := [.int (-1), .non, .bl true, .str "0", .int ((10 : Int) ^ Int.toNat 40), .int ((10 : Int) ^ Int.toNat 40 - 1)]) hp (by omega) (by simp) (by simp) len_L (fun k d h => op_ixL (ix_nat h))
  have hodd : Lf odd := lf_of lf1 hk3
  have hin : inG (.sh (.int 3)) (oL [.int 1, .int 3]) = some true := rfl
  obtain ⟨w, p4, e4, w0, w1, hp4⟩ := t_draw (many := 6) hp3 (by omega) (by omega)
  obtain ⟨w, rfl⟩ := Int.eq_ofNat_of_zero_le w0
  have hm : Sz (0 ≤ (13 : Int) ∧ (13 : Int) ≤ 1000 ∧ ("a" : Str).length ≤ 1000) := ⟨by omega, by omega, by decide⟩
  unfold d__law_bent
  by_cases c0 : w = 0 ∧ rs ≠ []
  · obtain ⟨rfl, hne⟩ := c0
    obtain ⟨k5, r5, p5, e5, hk5, hp5⟩ := t_pick (S := .sh (.lst (rs.map R4.d))) (ds := rs.map R4.d) hp4 (by omega) (by simpa using hne) (by simp; omega) len_S (fun k d h => op_ixS (ix_nat h))
    obtain ⟨r, hr, rfl⟩ := List.mem_map.mp (List.mem_of_getElem? hk5)
    have hr2 := name_ok (hrs r hr).1
    have d0 : decide (((0 : Nat) : Int) = 0) = true := rfl
    have d1 : decide (((0 : Nat) : Int) = 1) = false := rfl
    have d2 : decide (((0 : Nat) : Int) = 2) = false := rfl
    have de : (!(rs.map R4.d).isEmpty) = true := by cases rs with
      | nil => exact (hne rfl).elim
      | cons => rfl
    (first | (repeat' kbo_bools) | fail)
    refine ⟨_, p5, rfl, hp5.mono (by omega), .inr ⟨_, i, rfl, rowC_tup fun e he => ?_⟩⟩
    simp only [List.mem_cons, List.not_mem_nil, or_false] at he
    rcases he with rfl | rfl | rfl | rfl <;> first | trivial | (show _ ≤ _; first | omega | decide)
  · have d0 : (decide ((w : Int) = 0) && !(rs.map R4.d).isEmpty) = false := by
      cases rs with
      | nil => simp
      | cons x xs =>
        have : ¬ w = 0 := fun z => c0 ⟨z, by simp⟩
        have : decide ((w : Int) = 0) = false := decide_eq_false (by omega)
        rw [this]
        rfl
    by_cases c1 : w = 1
    · subst c1
      have d1 : decide (((1 : Nat) : Int) = 1) = true := rfl
      have d2 : decide (((1 : Nat) : Int) = 2) = false := rfl
      obtain ⟨k5, x, p5, e5, hk5, hp5⟩ := t_pick (S := oL [.lst [.str "ab", .int 77, .str "cd", odd],  .tup [.str "ab", .int 77, .str "cd"], .tup [.str "ab", .int 77, .str "cd", odd, .int 1], .non, .str "ab", .tup []]) (ds := [.lst [.str "ab", .int 77, .str "cd", odd],  .tup [.str "ab", .int 77, .str "cd"], .tup [.str "ab", .int 77, .str "cd", odd, .int 1], .non, .str "ab", .tup []]) hp4 (by omega) (by simp) (by simp) len_L (fun k d h => op_ixL (ix_nat h))
      (first | (repeat' kbo_bools) | fail)
      refine ⟨_, p5, rfl, hp5.mono (by omega), .inr ⟨x, i, rfl, ?_⟩⟩
      have hx := List.mem_of_getElem? hk5
      simp only [List.mem_cons, List.not_mem_nil, or_false] at hx
      rcases hx with rfl | rfl | rfl | rfl | rfl | rfl
      · refine rowC_lst fun e he => ?_
        simp only [List.mem_cons, List.not_mem_nil, or_false] at he
        rcases he with rfl | rfl | rfl | rfl <;> first | trivial | assumption | (show _ ≤ _; decide)
      · refine rowC_tup fun e he => ?_
        simp only [List.mem_cons, List.not_mem_nil, or_false] at he
        rcases he with rfl | rfl | rfl <;> first | trivial | assumption | (show _ ≤ _; decide)
      · refine rowC_tup fun e he => ?_
        simp only [List.mem_cons, List.not_mem_nil, or_false] at he
        rcases he with rfl | rfl | rfl | rfl | rfl <;> first | trivial | assumption | (show _ ≤ _; decide)
      · exact .inl trivial
      · exact .inl (by show _ ≤ _; decide)
      · exact rowC_tup fun e he => by cases he
    · have d1 : decide ((w : Int) = 1) = false := decide_eq_false (by omega)
      by_cases c2 : w = 2
      · subst c2
        have d2 : decide (((2 : Nat) : Int) = 2) = true := rfl
        obtain ⟨k5, x, p5, e5, hk5, hp5⟩ := t_pick (S := oL [.non, .int 5, .str "ab", .dic [], .bl true]) (ds := [.non, .int 5, .str "ab", .dic [], .bl true]) hp4 (by omega) (by simp) (by simp) len_L (fun k d h => op_ixL (ix_nat h))
        have hfz : Fz (.dic []) (.dic []) := by unfold Fz; rw [fz]; rfl
        (first | (repeat' kbo_bools) | fail)
        refine ⟨_, p5, rfl, hp5.mono (by omega), .inl ⟨x, rfl, ?_⟩⟩
        have hx := List.mem_of_getElem? hk5
        simp only [List.mem_cons, List.not_mem_nil, or_false] at hx
        exact hx
      · have d2 : decide ((w : Int) = 2) = false := decide_eq_false (by omega)
        (first | (repeat' kbo_bools) | fail)
        refine ⟨_, p4, rfl, hp4.mono (by omega), .inr ⟨_, i, rfl, rowC_tup fun e he => ?_⟩⟩
        simp only [List.mem_cons, List.not_mem_nil, or_false] at he
        rcases he with rfl | rfl | rfl | rfl <;> first | trivial | assumption | (show _ ≤ _; decide)
theorem t_bent {B : Nat} {p : Pen} {rs : List R4} (hp : p.Ok B) (hB : B + 20 < 1099511627775) (hrs : ∀ r ∈ rs, r.ok) (hl : rs.length ≤ 13) :
    Fq (d__law_bent [penO p, .sh (.lst (rs.map R4.d))]) fun r => ∃ (V : O) (p' : Pen), r = .ret V [penO p', .sh (.lst (rs.map R4.d))] ∧ p'.Ok (B + 10) ∧ ((∃ v, V = .sh v ∧ Scal v) ∨ ∃ (x : D) (k : Nat), V = oL ((rs.map R4.d).take k ++ [x] ++ (rs.map R4.d).drop k) ∧ RowC x) := by
  obtain ⟨i, p1, e1, i0, i1, hp1⟩ := t_draw (many := ((rs.map R4.d).length : Int) + 1) hp (by omega) (by simp; omega)
  obtain ⟨i, rfl⟩ := Int.eq_ofNat_of_zero_le i0
  obtain ⟨s, p2, e2, s0, s1, hp2⟩ := t_draw (many := 4) hp1 (by omega) (by omega)
  have hi : i ≤ rs.length := by rw [List.length_map] at i1; omega
  have : s = 0 ∨ s = 1 ∨ s = 2 ∨ s = 3 := by omega
  rcases this with rfl | rfl | rfl | rfl
  · exact t_bent0 hp2 hB hrs hl hi e1 e2
  · exact t_bent1 hp2 hB hrs hl hi e1 e2
  · exact t_bent2 hp2 hB hrs hl hi e1 e2
  · exact t_bent3 hp2 hB hrs hl hi e1 e2
end Lw
end
end
section
set_option maxHeartbeats 0
open PySem L2 Den
local macro_rules | `(tactic| infer_instance) => `(tactic| (((with_reducible show Sz _); unfold Sz; first | (omega))))
local macro_rules | `(tactic| fold_depth) => `(tactic| (first | ((with_reducible show At _ _ _); first | (with_reducible exact at0) | (with_reducible exact at1) | (with_reducible exact at2) | (with_reducible exact at3)) | ((with_reducible show St _ _ _ _); first | (with_reducible exact st0) | (with_reducible exact st1) | (with_reducible exact st2) | (with_reducible exact st3)) | ((with_reducible show Fu _ _); first | (with_reducible exact fu0) | (with_reducible exact fu1) | (with_reducible exact fu2) | (with_reducible exact fu3))))
local macro_rules | `(tactic| keq_rows) => `(tactic| (first | (with_reducible rfl) | (with_reducible assumption)))
local macro_rules | `(tactic| tb_start) => `(tactic| (first | ((with_reducible show _ = _); first | ((with_reducible show gLen _ = _); first | (with_reducible refine' len_L)) | ((with_reducible show gNe _ _ = _); first | (with_reducible refine' op_ne ?_)) | ((with_reducible show gIsi _ _ = _); first | ((with_reducible show gIsi "tuple" _ = _); first | (with_reducible refine' isi_oL_tuple))) | ((with_reducible show gIsi2 _ _ _ = _); first | (with_reducible refine' isi2_oL)) | (with_reducible refine' all_L))))
local macro_rules | `(tactic| keq_hits) => `(tactic| (first | ((with_reducible show _ = _); first | ((with_reducible show gEqD _ _ = _); first | (with_reducible refine' eq_ii) | (with_reducible refine' eq_bb)))))
local macro_rules | `(tactic| kat_tups) => `(tactic| ((with_reducible show (_ : Prop)); first | ((with_reducible show Ev _ _ _ _); first | (with_reducible refine' ev_op2 ?_ ?_) | (with_reducible refine' ev_op1 ?_ ?_) | ((with_reducible refine' ev_varO ?a ?_ ?_ ?_); (case a => fold_depth)) | (with_reducible refine' ev_call ?_ ?_ ?_ ?_ ?_) | (with_reducible refine' ev_lcY ?_ ?_ ?_ ?_ ?_ ?_ ?_ ?_)) | ((with_reducible show EvT _ _ _ _); first | (with_reducible refine' evt_b ?_) | (with_reducible refine' evt_and ?_ ?_) | (with_reducible refine' evt_or ?_ ?_)) | ((with_reducible show EvO _ _ _ _); first | (with_reducible exact evo_0) | (with_reducible refine' evo_x ?_ ?_) | (with_reducible refine' evo_p ?_ ?_ ?_)) | ((with_reducible show EvA _ _ _ _); first | (with_reducible exact eva_0) | (with_reducible refine' eva_p ?_ ?_)) | ((with_reducible show EvI _ _ _ _); first | (with_reducible refine' evi_zip ?_ ?_ ?_)) | ((with_reducible show Fz _ _); first | (with_reducible exact fz_1) | (with_reducible exact fz_2)) | ((with_reducible show Own _); first | (with_reducible exact own_L)) | ((with_reducible show Tak _ _ _ _); first | (with_reducible exact tak_0) | ((with_reducible refine' tak_s ?a ?_); (case a => fold_depth))) | ((with_reducible show Giv _ _ _ _); first | (with_reducible exact giv_0) | ((with_reducible refine' giv_s ?a ?_); (case a => fold_depth))) | ((with_reducible show ZipR _ _ _); first | (with_reducible exact zr_l)) | ((with_reducible show Lis _ _); first | (with_reducible exact lis_0) | (with_reducible refine' lis_s ?_)) | ((with_reducible show Tg _ _ _ _); first | (with_reducible refine' tg_n ?_) | (with_reducible refine' tg_u ?_)) | ((with_reducible show Tgs _ _ _ _); first | (with_reducible exact tgs_0) | (with_reducible refine' tgs_c ?_ ?_)) | ((with_reducible show Mp _ _ _); first | (with_reducible exact mp_zip_self)) | ((with_reducible show Clr _ _ _); first | (with_reducible exact clr_0) | (with_reducible refine' clr_c ?_ ?_)) | ((with_reducible show AndR _ _ _ _ _); first | ((with_reducible refine' andr_t ?b ?_); (case b => keq_rows))) | ((with_reducible show OrR _ _ _ _ _); first | ((with_reducible refine' orr_f ?b ?_); (case b => keq_rows))) | ((with_reducible show Ini _ _ _ _); first | (with_reducible exact ini_0) | (with_reducible refine' ini_t ?_) | (with_reducible refine' ini_n ?_)) | ((with_reducible show Outs _ _ _ _); first | (with_reducible exact outs_0) | (with_reducible refine' outs_t ?_)) | (fold_depth) | ((with_reducible show _ = FRes.ret _ _); first | (with_reducible apply_assumption -exfalso -symm)) | ((with_reducible show (_ : Prop)); with_reducible intro _) | (infer_instance) | (tb_start) | (keq_hits) | ((with_reducible show (_ : Prop)); with_reducible assumption)))
local macro_rules | `(tactic| tb_rel) => `(tactic| (first | (fail_if_success (with_reducible show (_ : Prop))) | (kat_tups; all_goals tb_rel)))
local macro_rules | `(tactic| kbo_bools) => `(tactic| (first | ((with_reducible refine' pws_if ?e ?k); (case' e => tb_rel); (case' k => first | ((with_reducible refine' ifr_t ?b ?k2); (case b => keq_rows)) | ((with_reducible refine' ifr_f ?b ?k2); (case b => keq_rows)))) | ((with_reducible refine' pws_ret ?e ?k); (case' e => tb_rel)) | (with_reducible refine' pw_as ?_) | (with_reducible refine' pws_nx ?_) | ((with_reducible refine' dk_ret ?o ?q); (case' o => tb_rel)) | ((with_reducible refine' eq_def ?i ?k); (case' i => tb_rel))))
section
open PySem L2 Den
namespace Lw

local macro_rules | `(tactic| tb_start) => `(tactic| with_reducible refine' lf_name ?_)
local macro_rules | `(tactic| tb_start) => `(tactic| with_reducible refine' lf_lname ?_)
local macro_rules | `(tactic| tb_start) => `(tactic| with_reducible refine' lf_whole ?_)
local macro_rules | `(tactic| tb_start) => `(tactic| with_reducible refine' lf_number ?_)
local macro_rules | `(tactic| tb_start) => `(tactic| with_reducible refine' R4.sl2)
local macro_rules | `(tactic| tb_start) => `(tactic| with_reducible refine' R4.sl2f)
local macro_rules | `(tactic| tb_start) => `(tactic| with_reducible refine' R4.sl3)
local macro_rules | `(tactic| tb_start) => `(tactic| with_reducible refine' R4.ix0)
local macro_rules | `(tactic| tb_start) => `(tactic| with_reducible refine' R4.ix1)
local macro_rules | `(tactic| tb_start) => `(tactic| with_reducible refine' R4.ix2)
local macro_rules | `(tactic| tb_start) => `(tactic| with_reducible refine' R4.ix3)
local macro_rules | `(tactic| keq_hits) => `(tactic| with_reducible refine' R4.inKeys ?_)
local macro_rules | `(tactic| tb_start) => `(tactic| with_reducible refine' t_listed_L)
local macro_rules | `(tactic| tb_start) => `(tactic| with_reducible refine' t_listed_l)
local macro_rules | `(tactic| tb_start) => `(tactic| with_reducible refine' t_listed_t)
local macro_rules | `(tactic| tb_start) => `(tactic| with_reducible refine' t_r4_row ?_)
local macro_rules | `(tactic| tb_start) => `(tactic| with_reducible refine' fld_rows)
local macro_rules | `(tactic| tb_start) => `(tactic| with_reducible refine' fld_told)
local macro_rules | `(tactic| tb_start) => `(tactic| with_reducible refine' isC_plan)
local macro_rules | `(tactic| tb_start) => `(tactic| with_reducible refine' R4.tabIx ?_)
local macro_rules | `(tactic| tb_start) => `(tactic| with_reducible refine' R4.tabGet)
local macro_rules | `(tactic| keq_hits) => `(tactic| with_reducible refine' R4.eqRows ?_)
local macro_rules | `(tactic| keq_hits) => `(tactic| with_reducible refine' R4.tabIn)
local macro_rules | `(tactic| tb_start) => `(tactic| with_reducible refine' t_whole0 ?_)
local macro_rules | `(tactic| tb_start) => `(tactic| with_reducible refine' tabSelfK ?_)
local macro_rules | `(tactic| tb_start) => `(tactic| with_reducible refine' addK)
theorem al_r4 {r : R4} : al 1 r.d = true := by simp [R4.d, al]
theorem al_rows {xs : List R4} (h : xs.length ≤ 1000) : al 7 (.tup (xs.map R4.d)) = true := by
  simp only [al, List.length_map, List.all_map, Bool.and_eq_true, decide_eq_true_eq, List.all_eq_true, Function.comp_def]
  exact ⟨h, fun x _ => by simp [R4.d, al]⟩
theorem al_lf {n : Nat} {d : D} (h : Lf d) : al n d = true := by
  cases d <;> first | (cases n <;> rfl) | cases h
theorem al_rowC {n : Nat} {d : D} (h : RowC d) : al (n + 1) d = true := by
  rcases h with h | ⟨ds, h | h, hd, hl⟩
  · exact al_lf h
  · subst h
    simp only [al, Bool.and_eq_true, decide_eq_true_eq, List.all_eq_true]
    exact ⟨hl, fun d m => al_lf (hd d m)⟩
  · subst h
    simp only [al, Bool.and_eq_true, decide_eq_true_eq, List.all_eq_true]
    exact ⟨hl, fun d m => al_lf (hd d m)⟩
theorem t_al {d : D} (h : Sz (al 7 d = true)) : d__law_alike 8 [.sh d, .sh d] = .ret (.sh (.bl true)) [.sh d, .sh d] := t_alike h.go
theorem t_alL {ds : List D} (hl : ds.length ≤ 1000) (h : ∀ d ∈ ds, al 6 d = true) : d__law_alike 8 [oL ds, oL ds] = .ret (.sh (.bl true)) [.sh (.lst ds), .sh (.lst ds)] := by
  have e1 : (!decide ((ds.length : Int) = (ds.length : Int))) = false := by simp
  have e3 : (!decide (false = false)) = false := by simp
  have hr : ∀ d ∈ ds, d__law_alike 7 [.sh d, .sh d] = .ret (.sh (.bl true)) [.sh d, .sh d] := fun d m => t_alike (h d m)
  rw [d__law_alike]
  revert hr
  generalize d__law_alike 7 = ρ
  intro hr
  unfold b__law_alike
  (repeat' kbo_bools)
  congr 3
  simp
end Lw
end
end
section
set_option maxHeartbeats 0
open PySem L2 Den
local macro_rules | `(tactic| infer_instance) => `(tactic| (((with_reducible show Sz _); unfold Sz; first | (omega) | (simp only [List.length_map, List.length_append, List.length_cons, List.length_nil, List.length_reverse, List.length_range, List.length_take, List.length_drop, len_app, len1]; omega) | (decide))))
local macro_rules | `(tactic| fold_depth) => `(tactic| (first | ((with_reducible show At _ _ _); first | (with_reducible exact at0) | (with_reducible exact at1) | (with_reducible exact at4) | (with_reducible exact at5) | (with_reducible exact at6) | (with_reducible exact at7) | (with_reducible exact at8) | (with_reducible exact at9) | (with_reducible exact at10) | (with_reducible exact at11) | (with_reducible exact at12) | (with_reducible exact at13) | (with_reducible exact at14)) | ((with_reducible show St _ _ _ _); first | (with_reducible exact st1) | (with_reducible exact st2) | (with_reducible exact st3) | (with_reducible exact st4) | (with_reducible exact st5) | (with_reducible exact st6) | (with_reducible exact st7) | (with_reducible exact st8) | (with_reducible exact st9) | (with_reducible exact st10) | (with_reducible exact st11) | (with_reducible exact st12) | (with_reducible exact st13) | (with_reducible exact st14)) | ((with_reducible show Fu _ _); first | (with_reducible exact fu0) | (with_reducible exact fu1) | (with_reducible exact fu4) | (with_reducible exact fu5) | (with_reducible exact fu6) | (with_reducible exact fu7) | (with_reducible exact fu8) | (with_reducible exact fu10) | (with_reducible exact fu11) | (with_reducible exact fu12) | (with_reducible exact fu13) | (with_reducible exact fu14)) | ((with_reducible show Em _ _); first | (with_reducible exact em1) | (with_reducible exact em7) | (with_reducible exact em8) | (with_reducible exact em11) | (with_reducible exact em12))))
local macro_rules | `(tactic| keq_rows) => `(tactic| (first | (with_reducible rfl) | (with_reducible assumption) | (simp only [Den.isNon, Den.isBl, List.length_cons, List.length_nil, Nat.reduceAdd, Nat.zero_add, Int.cast_ofNat_Int, Int.reduceEq, Int.reduceLT, Int.reduceLE, Int.reduceNeg, decide_true, decide_false, Bool.not_true, Bool.not_false, Bool.and_true, Bool.true_and, Bool.and_false, Bool.false_and, Bool.or_true, Bool.true_or, Bool.or_false, Bool.false_or, List.isEmpty_nil, List.isEmpty_cons, reduceCtorEq, List.map_cons, List.map_nil]; done)))
local macro_rules | `(tactic| tb_start) => `(tactic| (first | ((with_reducible show _ = _); first | (with_reducible assumption) | ((with_reducible show gIx _ _ = _); first | (with_reducible refine' op_ixL ?_) | (with_reducible refine' op_ixS ?_)) | ((with_reducible show gLen _ = _); first | (with_reducible refine' len_L)) | ((with_reducible show gEq _ _ = _); first | (with_reducible refine' op_eq ?_)) | ((with_reducible show gNe _ _ = _); first | (with_reducible refine' op_ne ?_)) | ((with_reducible show gAdd _ _ = _); first | (with_reducible refine' op_addI) | (with_reducible refine' op_addT ?_ ?_) | (with_reducible refine' op_addLL ?_ ?_)) | ((with_reducible show gIn _ _ = _); first | (with_reducible refine' op_in ?_)) | ((with_reducible show gSl _ _ _ = _); first | (with_reducible refine' sl_L ?_) | (with_reducible refine' sl_S ?_)) | ((with_reducible show gEqI _ _ _ _ = _); first | (with_reducible refine' eqI_o ?_) | (with_reducible refine' eqI_t ?_)) | ((with_reducible show gLenI _ _ _ = _); first | (with_reducible refine' lenI_o ?_ ?_)) | ((with_reducible show gIsi _ _ = _); first | ((with_reducible show gIsi "str" _ = _); first | (with_reducible refine' isi_non_str) | (with_reducible refine' isi_int_str) | (with_reducible refine' isi_str_str))) | (with_reducible refine' op_mulI ?_) | (with_reducible refine' op_pow ?_) | (with_reducible refine' op_neg) | (with_reducible refine' max_L) | (with_reducible refine' neE_S) | (with_reducible refine' list_L) | (with_reducible refine' tuple_L) | (with_reducible refine' rev_S) | (with_reducible refine' max2_i))))
local macro_rules | `(tactic| keq_hits) => `(tactic| (first | ((with_reducible show _ = _); first | ((with_reducible show gEqD _ _ = _); first | (with_reducible refine' eq_ii) | (with_reducible refine' eq_ss)) | ((with_reducible show atI _ _ = _); first | (with_reducible refine' ix_lit0) | (with_reducible refine' ix_lit1)) | ((with_reducible show cutD _ _ _ = _); first | (with_reducible refine' cut_to1) | (with_reducible refine' cut_to3) | (with_reducible refine' cut_d1)) | ((with_reducible show List.lookup _ _ = _); first | (with_reducible refine' lk_miss (by decide +kernel) ?_) | (with_reducible exact lk_nil)) | (with_reducible refine' tru_b))))
local macro_rules | `(tactic| kat_tups) => `(tactic| ((with_reducible show (_ : Prop)); first | ((with_reducible show Ev _ _ _ _); first | (with_reducible exact ev_c) | ((with_reducible refine' ev_var ?_); fold_depth) | (with_reducible refine' ev_op2 ?_ ?_) | (with_reducible refine' ev_op1 ?_ ?_) | (with_reducible refine' ev_fz ?_ ?_) | (with_reducible refine' ev_tup ?_ ?_) | (with_reducible refine' ev_lst ?_ ?_) | ((with_reducible refine' ev_varO ?a ?_ ?_ ?_); (case a => fold_depth)) | (with_reducible refine' ev_call ?_ ?_ ?_ ?_ ?_) | (with_reducible refine' ev_slp ?_ ?_ ?_ ?_ ?_) | (with_reducible refine' ev_slx ?_ ?_ ?_ ?_) | (with_reducible refine' ev_if ?_ ?_) | (with_reducible refine' ev_andv ?_ ?_) | (with_reducible refine' ev_lcY ?_ ?_ ?_ ?_ ?_ ?_ ?_ ?_) | (with_reducible refine' ev_new ?_ ?_ ?_ ?_ ?_) | (with_reducible refine' ev_mth ?_ ?_ ?_ ?_ ?_ ?_ ?_) | (with_reducible exact ev_newT)) | ((with_reducible show EvT _ _ _ _); first | (with_reducible refine' evt_b ?_) | (with_reducible refine' evt_not ?_) | (with_reducible refine' evt_and ?_ ?_) | (with_reducible refine' evt_or ?_ ?_) | (with_reducible refine' evt_tru ?_ ?_ ?_)) | ((with_reducible show EvO _ _ _ _); first | (with_reducible exact evo_0) | (with_reducible refine' evo_x ?_ ?_) | (with_reducible refine' evo_p ?_ ?_ ?_)) | ((with_reducible show EvS _ _ _ _); first | (with_reducible exact evs_0) | (with_reducible refine' evs_x ?_ ?_)) | ((with_reducible show EvA _ _ _ _); first | (with_reducible exact eva_0) | (with_reducible refine' eva_x ?_ ?_) | (with_reducible refine' eva_p ?_ ?_)) | ((with_reducible show EvP _ _ _ _); first | (with_reducible exact evp_0) | (with_reducible refine' evp_1 ?_ ?_)) | ((with_reducible show EvI _ _ _ _); first | (with_reducible refine' evi_it ?_ ?_) | (with_reducible refine' evi_rng ?_ ?_ ?_)) | ((with_reducible show Fz _ _); first | (with_reducible assumption) | (with_reducible exact fz_1) | (with_reducible exact fz_2)) | ((with_reducible show Own _); first | (with_reducible exact own_L) | (with_reducible exact own_pen) | (with_reducible exact own_t)) | ((with_reducible show Tak _ _ _ _); first | (with_reducible exact tak_0) | (with_reducible refine' tak_o ?_) | ((with_reducible refine' tak_s ?a ?_); (case a => fold_depth)) | (with_reducible refine' tak_p ?_ ?_ ?_ ?_)) | ((with_reducible show Giv _ _ _ _); first | (with_reducible exact giv_0) | (with_reducible refine' giv_o ?_) | ((with_reducible refine' giv_s ?a ?_); (case a => fold_depth)) | (with_reducible refine' giv_p ?_ ?_ ?_)) | ((with_reducible show Nl _ _); first | (unfold Nl; simp only [List.length_cons, List.length_nil, Nat.reduceAdd, Nat.zero_add, Int.cast_ofNat_Int, Int.reduceAdd, Int.reduceSub, Int.reduceNeg]; with_reducible rfl) | (with_reducible exact nl_0)) | ((with_reducible show App _ _ _); first | (with_reducible exact app_0) | (with_reducible refine' app_c ?_) | (with_reducible exact app_n)) | ((with_reducible show Lis _ _); first | (with_reducible exact lis_0) | (with_reducible refine' lis_s ?_)) | ((with_reducible show ItR _ _); first | (with_reducible exact itr_l)) | ((with_reducible show Rn _ _); first | (with_reducible exact rn_nat) | (with_reducible exact rn_lit)) | ((with_reducible show Tg _ _ _ _); first | (with_reducible refine' tg_n ?_)) | ((with_reducible show Mp _ _ _); first | (with_reducible exact mp_map)) | ((with_reducible show Clr _ _ _); first | (with_reducible exact clr_0) | (with_reducible refine' clr_c ?_ ?_)) | ((with_reducible show AndR _ _ _ _ _); first | ((with_reducible refine' andr_f ?b); (case b => keq_rows)) | ((with_reducible refine' andr_t ?b ?_); (case b => keq_rows))) | ((with_reducible show OrR _ _ _ _ _); first | ((with_reducible refine' orr_f ?b ?_); (case b => keq_rows))) | ((with_reducible show AndV _ _ _ _ _); first | ((with_reducible refine' andv_f ?b); (case b => keq_rows)) | ((with_reducible refine' andv_t ?b ?_); (case b => keq_rows)) | (with_reducible refine' andv_g ?_)) | ((with_reducible show IfV _ _ _ _ _ _); first | ((with_reducible refine' ifv_t ?b ?_); (case b => keq_rows)) | ((with_reducible refine' ifv_f ?b ?_); (case b => keq_rows))) | ((with_reducible show Ini _ _ _ _); first | (with_reducible exact ini_0) | (with_reducible refine' ini_t ?_) | (with_reducible refine' ini_n ?_)) | ((with_reducible show Outs _ _ _ _); first | (with_reducible exact outs_0) | (with_reducible refine' outs_t ?_)) | (fold_depth) | ((with_reducible show _ = FRes.ret _ _); first | (with_reducible assumption) | (tb_start) | (with_reducible apply_assumption -exfalso -symm)) | ((with_reducible show (_ : Prop)); with_reducible intro _) | (infer_instance) | (tb_start) | (keq_hits) | ((with_reducible show (_ : Prop)); with_reducible assumption)))
local macro_rules | `(tactic| tb_rel) => `(tactic| (first | (fail_if_success (with_reducible show (_ : Prop))) | (kat_tups; all_goals tb_rel) | (with_reducible show Sz _)))
local macro_rules | `(tactic| kbo_bools) => `(tactic| (first | ((with_reducible refine' pws_set ?e ?s ?k); (case' e => tb_rel); (case' s => tb_rel)) | ((with_reducible refine' pws_if ?e ?k); (case' e => tb_rel); (case' k => first | ((with_reducible refine' ifr_f ?b ?k2); (case b => keq_rows)))) | ((with_reducible refine' pw_ret ?e ?k); (case' e => tb_rel)) | ((with_reducible refine' pws_par ?e ?f ?s ?t ?k); (case' e => tb_rel); (case' f => tb_rel); (case' s => tb_rel); (case' t => tb_rel)) | ((with_reducible refine' pws_sub ?e ?f ?g ?h ?s ?t ?u ?k); (case' e => tb_rel); (case' f => tb_rel); (case' g => tb_rel); (case' h => tb_rel); (case' s => tb_rel); (case' t => tb_rel); (case' u => tb_rel)) | (with_reducible refine' pws_nx ?_) | (with_reducible refine' pw_nx ?_) | (with_reducible refine' pw_end (sIf _ _ _) ?_) | (with_reducible refine' pw_end (sSub _ _ _) ?_) | (with_reducible refine' pw_end (sFor _ _ _) ?_) | (with_reducible refine' lk_nx ?_) | ((with_reducible refine' dk_ret ?o ?q); (case' o => tb_rel)) | ((with_reducible refine' eq_def ?i ?k); (case' i => tb_rel))))
section
open PySem L2 Den
namespace Lw

local macro_rules | `(tactic| tb_start) => `(tactic| with_reducible refine' lf_name ?_)
local macro_rules | `(tactic| tb_start) => `(tactic| with_reducible refine' lf_lname ?_)
local macro_rules | `(tactic| tb_start) => `(tactic| with_reducible refine' lf_whole ?_)
local macro_rules | `(tactic| tb_start) => `(tactic| with_reducible refine' lf_number ?_)
local macro_rules | `(tactic| tb_start) => `(tactic| with_reducible refine' R4.sl2)
local macro_rules | `(tactic| tb_start) => `(tactic| with_reducible refine' R4.sl2f)
local macro_rules | `(tactic| tb_start) => `(tactic| with_reducible refine' R4.sl3)
local macro_rules | `(tactic| tb_start) => `(tactic| with_reducible refine' R4.ix0)
local macro_rules | `(tactic| tb_start) => `(tactic| with_reducible refine' R4.ix1)
local macro_rules | `(tactic| tb_start) => `(tactic| with_reducible refine' R4.ix2)
local macro_rules | `(tactic| tb_start) => `(tactic| with_reducible refine' R4.ix3)
local macro_rules | `(tactic| keq_hits) => `(tactic| with_reducible refine' R4.inKeys ?_)
local macro_rules | `(tactic| tb_start) => `(tactic| with_reducible refine' t_listed_L)
local macro_rules | `(tactic| tb_start) => `(tactic| with_reducible refine' t_listed_l)
local macro_rules | `(tactic| tb_start) => `(tactic| with_reducible refine' t_listed_t)
local macro_rules | `(tactic| tb_start) => `(tactic| with_reducible refine' t_r4_row ?_)
local macro_rules | `(tactic| tb_start) => `(tactic| with_reducible refine' fld_rows)
local macro_rules | `(tactic| tb_start) => `(tactic| with_reducible refine' fld_told)
local macro_rules | `(tactic| tb_start) => `(tactic| with_reducible refine' isC_plan)
local macro_rules | `(tactic| tb_start) => `(tactic| with_reducible refine' R4.tabIx ?_)
local macro_rules | `(tactic| tb_start) => `(tactic| with_reducible refine' R4.tabGet)
local macro_rules | `(tactic| keq_hits) => `(tactic| with_reducible refine' R4.eqRows ?_)
local macro_rules | `(tactic| keq_hits) => `(tactic| with_reducible refine' R4.tabIn)
local macro_rules | `(tactic| tb_start) => `(tactic| with_reducible refine' t_whole0 ?_)
local macro_rules | `(tactic| tb_start) => `(tactic| with_reducible refine' tabSelfK ?_)
local macro_rules | `(tactic| tb_start) => `(tactic| with_reducible refine' addK)
local macro_rules | `(tactic| tb_start) => `(tactic| with_reducible refine' t_al ?_)
local macro_rules | `(tactic| tb_start) => `(tactic| with_reducible refine' t_eqT)
local macro_rules | `(tactic| tb_start) => `(tactic| with_reducible refine' t_len)
local macro_rules | `(tactic| tb_start) => `(tactic| with_reducible refine' R4.tabSet2 ?_)
theorem app_lit {rs : List R4} : (rs.map R4.d).length = rs.length := List.length_map ..
/-- what is kept of a plan's rows -/
structure Good (rs : List R4) : Prop where
  ok : ∀ r ∈ rs, r.ok
  low : ∀ r ∈ rs, r.l ≤ 3000000000000000000000000000000000000000
  ap : Ap4 rs
theorem Good.perm {xs ys : List R4} (h : xs.Perm ys) (g : Good xs) : Good ys := ⟨fun r m => g.ok r (h.mem_iff.mpr m), fun r m => g.low r (h.mem_iff.mpr m), ap_perm h g.ap⟩
theorem e39 : (10 : Int) ^ Int.toNat 39 = 1000000000000000000000000000000000000000 := by decide
/-- a place that is asked for -/
def PlO (d : D) : Prop := Lf d ∧ ((∃ p, d = .str p) ∨ d = .non ∨ d = .int 5)
def NoO (d : D) : Prop := Lf d ∧ ((∃ n : Int, d = .int n ∧ n ≤ MX) ∨ d = .bl true ∨ d = .non ∨ d = .str "0")
theorem turn_go {B : Nat} {p : Pen} {names : List Str} (hp : p.Ok B) (hB : B + 20 < 1099511627775) (hn : names.length = 4) :
    ∃ (a c : Str) (n l : Int) (p1 p2 p3 p4 p5 : Pen) (k : Int), a ∈ names ∧ c ∈ names ∧ (0 ≤ n ∧ n ≤ MX) ∧ (0 ≤ l ∧ l ≤ 3000000000000000000000000000000000000000) ∧ p5.Ok (B + 5) ∧
      d__law_pick [penO p, oL (names.map D.str)] = .ret (.sh (.str a)) [penO p1, oL (names.map D.str)] ∧
      d__law_draw [penO p1, .sh (.int 20)] = .ret (.sh (.int k)) [penO p2, .sh (.int 20)] ∧
      d__law_pick [penO p2, oL [.int 0, .int 1, .int 2, .int ((10 : Int) ^ Int.toNat 39), .int k]] = .ret (.sh (.int n)) [penO p3, oL [.int 0, .int 1, .int 2, .int ((10 : Int) ^ Int.toNat 39), .int k]] ∧
      d__law_pick [penO p3, oL (names.map D.str)] = .ret (.sh (.str c)) [penO p4, oL (names.map D.str)] ∧
      d__law_pick [penO p4, oL [.int 0, .int 1, .int 2, .int (3 * (10 : Int) ^ Int.toNat 39)]] = .ret (.sh (.int l)) [penO p5, oL [.int 0, .int 1, .int 2, .int (3 * (10 : Int) ^ Int.toNat 39)]] := by
  have hne : names.map D.str ≠ [] := by intro z; rw [List.map_eq_nil_iff] at z; rw [z] at hn; cases hn
  have hx : ∀ (ds : List D) (k : Nat) (d : D), ds[k]? = some d → gIx (oL ds) (.sh (.int (k : Int))) = some (.sh d) := fun ds k d h => op_ixL (ix_nat h)
  obtain ⟨k1, d1, p1, e1, h1, hp1⟩ := t_pick (S := oL (names.map D.str)) (ds := names.map D.str) hp (by omega) hne (by simp; omega) len_L (hx _)
  obtain ⟨a, ha, rfl⟩ := List.mem_map.mp (List.mem_of_getElem? h1)
  obtain ⟨k, p2, e2, k0, k20, hp2⟩ := t_draw (many := 20) hp1 (by omega) (by omega)
  obtain ⟨k3, d3, p3, e3, h3, hp3⟩ := t_pick (S := oL [.int 0, .int 1, .int 2, .int ((10 : Int) ^ Int.toNat 39), .int k]) (ds := [.int 0, .int 1, .int 2, .int ((10 : Int) ^ Int.toNat 39), .int k]) hp2 (by omega) (by simp) (by simp) len_L (hx _)
  obtain ⟨n, rfl, hn2⟩ : ∃ n : Int, d3 = .int n ∧ 0 ≤ n ∧ n ≤ MX := by
    have := List.mem_of_getElem? h3
    rw [e39] at this
    simp only [List.mem_cons, List.not_mem_nil, or_false] at this
    rcases this with rfl | rfl | rfl | rfl | rfl
    · exact ⟨_, rfl, by decide, by decide⟩
    · exact ⟨_, rfl, by decide, by decide⟩
    · exact ⟨_, rfl, by decide, by decide⟩
    · exact ⟨_, rfl, by decide, by decide⟩
    · exact ⟨_, rfl, k0, by show k ≤ 9999999999999999999999999999999999999999; omega⟩
  obtain ⟨k4, d4, p4, e4, h4, hp4⟩ := t_pick (S := oL (names.map D.str)) (ds := names.map D.str) hp3 (by omega) hne (by simp; omega) len_L (hx _)
  obtain ⟨c, hc, rfl⟩ := List.mem_map.mp (List.mem_of_getElem? h4)
  obtain ⟨k5, d5, p5, e5, h5, hp5⟩ := t_pick (S := oL [.int 0, .int 1, .int 2, .int (3 * (10 : Int) ^ Int.toNat 39)]) (ds := [.int 0, .int 1, .int 2, .int (3 * (10 : Int) ^ Int.toNat 39)]) hp4 (by omega) (by simp) (by simp) len_L (hx _)
  obtain ⟨l, rfl, hl2⟩ : ∃ n : Int, d5 = .int n ∧ 0 ≤ n ∧ n ≤ 3000000000000000000000000000000000000000 := by
    have := List.mem_of_getElem? h5
    rw [e39] at this
    simp only [List.mem_cons, List.not_mem_nil, or_false] at this
    rcases this with rfl | rfl | rfl | rfl <;> exact ⟨_, rfl, by decide, by decide⟩
  exact ⟨a, c, n, l, p1, p2, p3, p4, p5, k, ha, hc, hn2, hl2, hp5.mono (by omega), e1, e2, e3, e4, e5⟩
/-- what is asked of a row beside another first row -/
theorem srt_ne_len {xs ys : List R4} (h : xs.length ≠ ys.length) : decide (srtBy R4.d xs = srtBy R4.d ys) = false := by
  refine decide_eq_false fun e => h ?_
  have := congrArg List.length e
  rw [(srt_perm R4.d xs).length_eq, (srt_perm R4.d ys).length_eq] at this
  exact this
theorem srt_rev {xs : List R4} : decide (srtBy R4.d xs = srtBy R4.d xs.reverse) = true := decide_eq_true (R4.uniq (List.reverse_perm xs).symm)
theorem srt_other {r : R4} {rs : List R4} (ap : Ap4 (r :: rs)) : decide (srtBy R4.d (r :: rs) = srtBy R4.d (⟨r.p, r.n, r.c, r.l + 1⟩ :: rs)) = false := by
  refine decide_eq_false fun e => ?_
  have p := (srt_perm R4.d (r :: rs)).symm.trans ((e ▸ (srt_perm R4.d (⟨r.p, r.n, r.c, r.l + 1⟩ :: rs))))
  have m : (⟨r.p, r.n, r.c, r.l + 1⟩ : R4) ∈ r :: rs := p.mem_iff.mpr (by simp)
  rcases List.mem_cons.mp m with h | h
  · have := congrArg R4.l h
    simp only at this
    omega
  · exact (List.pairwise_cons.mp ap).1 _ h rfl
theorem t_law {ns : List Int} (hns : ns.length ≤ 63) : d_law [.sh (.wls (ns.map D.int))] = .ret (.sh (.bl true)) [.sh (.wls (ns.map D.int))] := by
  obtain ⟨p0, e0, hp0⟩ := t_pen hns
  generalize D.wls (ns.map D.int) = W at e0 ⊢
  unfold d_law
  kbo_bools
  kbo_bools
  refine pws_for (fun rest σ => ∃ (p : Pen) (x2 x3 x4 x5 x6 x7 x8 x9 x10 x11 x12 x13 x14 : Option O), σ = [some (.sh W), some (penO p), x2, x3, x4, x5, x6, x7, x8, x9, x10, x11, x12, x13, x14] ∧ p.Ok (400 * (3 - rest.length)) ∧ rest.length ≤ 3) (by tb_rel) (by exact ⟨p0, none, none, none, none, none, none, none, none, none, none, none, none, none, rfl, hp0.mono (by omega), by simp [rngD]⟩) (fun d rest σ h => ?_) (fun σ h => ?_)
  · obtain ⟨p, x2, x3, x4, x5, x6, x7, x8, x9, x10, x11, x12, x13, x14, rfl, hp, h3⟩ := h
    rw [List.length_cons] at h3
    refine ⟨_, by tb_rel, ?_⟩
    have hB : 400 * (3 - (d :: rest).length) ≤ 1200 := by omega
    obtain ⟨names, p1, e1, hnl, hnd, hnm, hp1⟩ := t_names (n := 4) hp (by omega) (by omega)
    obtain ⟨m, p2, e2, m0, m13, hp2⟩ := t_draw (many := 13) hp1 (by omega) (by omega)
    obtain ⟨m, rfl⟩ := Int.eq_ofNat_of_zero_le m0
    obtain ⟨C, hC⟩ : ∃ C, C = 400 * (3 - (d :: rest).length) := ⟨_, rfl⟩
    rw [← hC] at hB hp1 hp2
    have hC2 : C + 400 ≤ 400 * (3 - rest.length) := by
      rw [hC, List.length_cons]
      omega
    (repeat' kbo_bools)
    refine pws_for (fun rest σ => ∃ (p : Pen) (y3 y9 : Option O) (rs : List R4), σ = [some (.sh W), some (penO p), some (.sh d), y3, x4, x5, x6, some (oL (names.map D.str)), some (.dit (tab R4.k R4.v rs)), y9, x10, x11, x12, x13, x14] ∧ Good rs ∧ rs.length + rest.length ≤ m ∧ p.Ok (C + 45 + 5 * (m - rest.length))) (by tb_rel) (by exact ⟨p2, x3, x9, [], rfl, ⟨(fun _ z => by cases z), (fun _ z => by cases z), .nil⟩, by simp [rngD], hp2.mono (by omega)⟩) (fun d2 rest2 σ h => ?_) (fun σ h => ?_)
    · obtain ⟨p, y3, y9, rs, rfl, g, hl, hp⟩ := h
      rw [List.length_cons] at hl hp
      obtain ⟨a, c, n, l, q1, q2, q3, q4, q5, k, ha, hc, hn, hl2, hq, f1, f2, f3, f4, f5⟩ := turn_go (names := names) hp (by omega) hnl
      refine ⟨_, by tb_rel, ?_⟩
      have hmx : (3 : Int) * 10 ^ Int.toNat 39 = 3 * 10 ^ Int.toNat 39 := rfl
      (repeat' kbo_bools)
      have hr : R4.ok ⟨a, n, c, l⟩ := ⟨hnm a ha, hnm c hc, hn, hl2.1, by show l ≤ 9999999999999999999999999999999999999999; omega⟩
      have pl := R4.put_len rs ⟨a, n, c, l⟩
      exact ⟨q5, _, _, R4.put rs ⟨a, n, c, l⟩, rfl, ⟨R4.put_ok g.ok hr, R4.put_all g.low hl2.2, R4.put_ap g.ap⟩, by omega, hq.mono (by omega)⟩
    obtain ⟨p, y3, y9, rs0, rfl, g0, hl0, hp⟩ := h
    rw [List.length_nil] at hl0 hp
    have er := t_plan_rows g0.ap (by omega : rs0.length ≤ 100)
    have sk := srt_perm R4.kd rs0
    have skl := sk.length_eq
    obtain ⟨es, p3, e3, pm, hp3⟩ := t_shuf (S := oL ((srtBy R4.kd rs0).map R4.d)) (ds := (srtBy R4.kd rs0).map R4.d) hp (by rw [List.length_map]; omega) (by rw [List.length_map]; omega) list_L len_L
    obtain ⟨rs, rfl, pr⟩ := perm_map pm
    have pr0 := pr.trans sk
    have g := g0.perm pr0.symm
    have hl : rs.length ≤ 12 := by rw [pr0.length_eq]; omega
    obtain ⟨k4, v, p4, e4, h4, hp4⟩ := t_pick (S := oL [.lst (rs.map R4.d), .tup (rs.map R4.d)]) (ds := [.lst (rs.map R4.d), .tup (rs.map R4.d)]) hp3 (by rw [List.length_map]; omega) (by simp) (by simp) len_L (fun k d h => op_ixL (ix_nat h))
    have hv : Hand (.sh v) (rs.map R4.d) (.sh v) := by
      have := List.mem_of_getElem? h4
      simp only [List.mem_cons, List.not_mem_nil, or_false] at this
      rcases this with rfl | rfl
      · exact .inr (.inl ⟨rfl, rfl⟩)
      · exact .inr (.inr ⟨rfl, rfl⟩)
    have e5 := t_made_good hv g.ok g.ap (by omega)
    have hs := R4.sort (rs := rs) (by omega)
    have el : (!decide ((rs.length : Int) = ((rs.map R4.d).length : Int))) = false := by rw [List.length_map]; simp
    have ef : (!decide ((Str.ofString "fine") = (Str.ofString "fine"))) = false := by simp
    have em := t_many (rs := rs) (by omega)
    kbo_bools
    kbo_bools
    kbo_bools
    kbo_bools
    rotate_left
    · exact al_rows (by rw [(srt_perm R4.d rs).length_eq]; omega)
    kbo_bools
    rotate_left
    · rfl
    have hpl : ∀ x ∈ names.map D.str ++ [.str "zz", .non, .int 5], PlO x := fun x hx => by
      rcases List.mem_append.mp hx with hx | hx
      · obtain ⟨z, hz, rfl⟩ := List.mem_map.mp hx
        exact ⟨by have := (name_ok (hnm z hz)).2.2; show _ ≤ _; omega, .inl ⟨z, rfl⟩⟩
      · simp only [List.mem_cons, List.not_mem_nil, or_false] at hx
        rcases hx with rfl | rfl | rfl
        · exact ⟨by show _ ≤ _; decide, .inl ⟨_, rfl⟩⟩
        · exact ⟨trivial, .inr (.inl rfl)⟩
        · exact ⟨trivial, .inr (.inr rfl)⟩
    refine pws_for (fun rest σ => ∃ (y6 y10 y13 : Option O), σ = [some (.sh W), some (penO p4), some (.sh d), y3, some (.sh (.lst (rs.map R4.d))), some (oL [.str "fine", planD rs]), y6, some (oL (names.map D.str)), some (.dit (tab R4.k R4.v rs0)), y9, y10, x11, x12, y13, x14] ∧ ∀ x ∈ rest, PlO x) (by tb_rel) (by exact ⟨_, _, _, rfl, hpl⟩) (fun a rest2 σ h => ?_) (fun σ h => ?_)
    · obtain ⟨y6, y10, y13, rfl, ho⟩ := h
      obtain ⟨ha, hak⟩ := ho a (by simp)
      have ho2 : ∀ x ∈ rest2, PlO x := fun x m => ho x (by simp [m])
      refine ⟨_, by tb_rel, ?_⟩
      (repeat' kbo_bools)
      have hno : ∀ x ∈ ([.int 0, .int 1, .bl true, .non, .int ((10 : Int) ^ Int.toNat 39), .str "0", .int (-1)] : List D), NoO x := fun x hx => by
        rw [e39] at hx
        simp only [List.mem_cons, List.not_mem_nil, or_false] at hx
        rcases hx with rfl | rfl | rfl | rfl | rfl | rfl | rfl
        · exact ⟨trivial, .inl ⟨_, rfl, by decide⟩⟩
        · exact ⟨trivial, .inl ⟨_, rfl, by decide⟩⟩
        · exact ⟨trivial, .inr (.inl rfl)⟩
        · exact ⟨trivial, .inr (.inr (.inl rfl))⟩
        · exact ⟨trivial, .inl ⟨_, rfl, by decide⟩⟩
        · exact ⟨by show _ ≤ _; decide, .inr (.inr (.inr rfl))⟩
        · exact ⟨trivial, .inl ⟨_, rfl, by decide⟩⟩
      refine pws_for (fun rest σ => ∃ (y10 y13 : Option O), σ = [some (.sh W), some (penO p4), some (.sh d), y3, some (.sh (.lst (rs.map R4.d))), some (oL [.str "fine", planD rs]), some (.sh a), some (oL (names.map D.str)), some (.dit (tab R4.k R4.v rs0)), y9, y10, x11, x12, y13, x14] ∧ ∀ x ∈ rest, NoO x) (by tb_rel) (by exact ⟨_, _, rfl, hno⟩) (fun b rest3 σ h => ?_) (fun σ h => ?_)
      · obtain ⟨y10, y13, rfl, hn⟩ := h
        obtain ⟨hb, hbk⟩ := hn b (by simp)
        have hn2 : ∀ x ∈ rest3, NoO x := fun x m => hn x (by simp [m])
        have er2 := t_row_at (rs := rs) ha hb g.ap
        refine ⟨_, by tb_rel, ?_⟩
        rcases hbk with ⟨n, rfl, hnM⟩ | rfl | rfl | rfl
        · rcases hak with ⟨q, rfl⟩ | rfl | rfl
          · have hper : R4.at_ rs q n = R4.at_ rs0 q n := R4.at_perm pr0 g.ap g0.ap
            by_cases hn0 : 0 ≤ n
            · have w : whB2 0 MX (.int n) = true := by
                show (decide (0 ≤ n) && decide (n ≤ MX)) = true
                rw [decide_eq_true hn0, decide_eq_true hnM]; rfl
              cases hf : R4.at_ rs0 q n with
              | none =>
                have z : (R4.at_ rs0 q n).isSome = false := by rw [hf]; rfl
                have er3 : rowAt rs (.str q) (.int n) = .non := by
                  show (if _ then _ else _) = _
                  rw [hper, hf]
                  split <;> rfl
                rw [er3] at er2
                (repeat' kbo_bools)
                all_goals first | exact ⟨_, _, rfl, hn2⟩ | rfl
              | some r =>
                have z : (R4.at_ rs0 q n).isSome = true := by rw [hf]; rfl
                obtain ⟨mr, hq, hn⟩ := R4.at_key hf
                have er3 : rowAt rs (.str q) (.int n) = r.v := by
                  show (if _ then _ else _) = _
                  rw [hper, hf, if_pos ⟨hq ▸ (g0.ok r mr).1, hn0⟩]
                  rfl
                rw [er3] at er2
                (repeat' kbo_bools)
                all_goals first | exact ⟨_, _, rfl, hn2⟩ | rfl
            · have w : whB2 0 MX (.int n) = false := by
                show (decide (0 ≤ n) && decide (n ≤ MX)) = false
                rw [decide_eq_false hn0]; rfl
              have er3 : rowAt rs (.str q) (.int n) = .non := by
                show (if _ then _ else _) = _
                rw [if_neg fun z => hn0 z.2]
              rw [er3] at er2
              (repeat' kbo_bools)
              all_goals first | exact ⟨_, _, rfl, hn2⟩ | rfl
          · have er3 : rowAt rs .non (.int n) = .non := rfl
            rw [er3] at er2
            (repeat' kbo_bools)
            all_goals first | exact ⟨_, _, rfl, hn2⟩ | rfl
          · have er3 : rowAt rs (.int 5) (.int n) = .non := rfl
            rw [er3] at er2
            (repeat' kbo_bools)
            all_goals first | exact ⟨_, _, rfl, hn2⟩ | rfl
        · have w : whB2 0 MX (.bl true) = false := rfl
          have er3 : rowAt rs a (.bl true) = .non := by cases a <;> rfl
          rw [er3] at er2
          (repeat' kbo_bools)
          all_goals first | exact ⟨_, _, rfl, hn2⟩ | rfl
        · have w : whB2 0 MX .non = false := rfl
          have er3 : rowAt rs a .non = .non := by cases a <;> rfl
          rw [er3] at er2
          (repeat' kbo_bools)
          all_goals first | exact ⟨_, _, rfl, hn2⟩ | rfl
        · have w : whB2 0 MX (.str "0") = false := rfl
          have er3 : rowAt rs a (.str "0") = .non := by cases a <;> rfl
          rw [er3] at er2
          (repeat' kbo_bools)
          all_goals first | exact ⟨_, _, rfl, hn2⟩ | rfl
      · obtain ⟨y10, y13, rfl, _⟩ := h
        (repeat' kbo_bools)
        exact ⟨_, _, _, rfl, ho2⟩
    obtain ⟨y6, y10, y13, rfl, _⟩ := h
    refine' pws_if (b := false) (ρ1 := [some (.sh W), some (penO p4), some (.sh d), y3, some (.sh (.lst (rs.map R4.d))), some (oL [.str "fine", planD rs]), y6, some (oL (names.map D.str)), some (.dit (tab R4.k R4.v rs0)), y9, y10, x11, x12, y13, x14]) ?e (ifr_f rfl ?k)
    case' e =>
      by_cases hne : rs = []
      · subst hne
        tb_rel
      · obtain ⟨r, rs', hr⟩ := List.exists_cons_of_ne_nil hne
        have hd1 : List.drop 1 (List.map R4.d rs) = List.map R4.d rs' := by rw [hr]; rfl
        have x0 : atI (List.map R4.d rs) 0 = some r.d := by rw [hr]; exact atI_0 _ _
        have he : (!(List.map R4.d rs).isEmpty) = true := by rw [hr]; rfl
        have mr : ∀ x ∈ rs', x ∈ rs := fun x m => by rw [hr]; exact List.mem_cons_of_mem _ m
        have ap' : Ap4 rs' := by have := g.ap; rw [hr] at this; exact (List.pairwise_cons.mp this).2
        have l' : rs'.length ≤ 12 := by have := hl; rw [hr, List.length_cons] at this; omega
        have ro := g.ok r (by rw [hr]; simp)
        have rl := g.low r (by rw [hr]; simp)
        obtain ⟨r2, hr2⟩ : ∃ r2 : R4, r2 = ⟨r.p, r.n, r.c, r.l + 1⟩ := ⟨_, rfl⟩
        have ro2 : r2.ok := by
          rw [hr2]
          exact ⟨ro.1, ro.2.1, ro.2.2.1, by have := ro.2.2.2.1; show 0 ≤ r.l + 1; omega, by show r.l + 1 ≤ 9999999999999999999999999999999999999999; omega⟩
        have ok2 : ∀ x ∈ r2 :: rs', x.ok := fun x m => by
          rcases List.mem_cons.mp m with rfl | m
          · exact ro2
          · exact g.ok x (mr x m)
        have apr : Ap4 (r :: rs') := hr ▸ g.ap
        have ap2 : Ap4 (r2 :: rs') := by
          have := List.pairwise_cons.mp apr
          refine List.pairwise_cons.mpr ⟨fun x m => ?_, this.2⟩
          rw [hr2]
          exact this.1 x m
        have i1 : d_Plan___init__ [.obj 2 [], oL (List.drop 1 (List.map R4.d rs))] = .ret (.sh .non) [.obj 2 (planF rs'), .sh (.lst (List.map R4.d rs'))] := by
          rw [hd1]
          exact t_init_good (.inl ⟨rfl, rfl⟩) (fun x m => g.ok x (mr x m)) ap' (by omega)
        have i2 : d_Plan___init__ [.obj 2 [], oL (List.map R4.d rs).reverse] = .ret (.sh .non) [.obj 2 (planF rs.reverse), .sh (.lst (List.map R4.d rs.reverse))] := by
          rw [← List.map_reverse]
          exact t_init_good (.inl ⟨rfl, rfl⟩) (fun x m => g.ok x (List.mem_reverse.mp m)) (ap_perm (List.reverse_perm rs).symm g.ap) (by rw [List.length_reverse]; omega)
        have i3 : d_Plan___init__ [.obj 2 [], oL (.tup [.str r.p, .int r.n, .str r.c, .int (r.l + 1)] :: List.drop 1 (List.map R4.d rs))] = .ret (.sh .non) [.obj 2 (planF (r2 :: rs')), .sh (.lst (List.map R4.d (r2 :: rs')))] := by
          rw [hd1]
          have := t_init_good (rs := r2 :: rs') (.inl ⟨rfl, rfl⟩) ok2 ap2 (by rw [List.length_cons]; omega)
          rw [hr2] at this ⊢
          exact this
        have f1 := fz_plan (rs := rs')
        have f2 := fz_plan (rs := rs.reverse)
        have f3 := fz_plan (rs := r2 :: rs')
        have q1 := t_eq g.ok (fun x m => g.ok x (mr x m))
        have q2 := t_eq g.ok (fun x (m : x ∈ rs.reverse) => g.ok x (List.mem_reverse.mp m))
        have q3 := t_eq g.ok ok2
        rw [srt_ne_len (by rw [hr, List.length_cons]; omega)] at q1
        rw [srt_rev] at q2
        rw [show decide (srtBy R4.d rs = srtBy R4.d (r2 :: rs')) = false by rw [hr, hr2]; exact srt_other apr] at q3
        tb_rel
    kbo_bools
    kbo_bools
    have hp5 : p4.Ok (C + 180) := hp4.mono (by rw [List.length_map]; omega)
    refine pws_for (fun rest σ => ∃ (p : Pen) (y3 y11 y12 : Option O), σ = [some (.sh W), some (penO p), some (.sh d), y3, some (.sh (.lst (rs.map R4.d))), some (oL [.str "fine", planD rs]), y6, some (oL (names.map D.str)), some (.dit (tab R4.k R4.v rs0)), y9, y10, y11, y12, y13, x14] ∧ p.Ok (C + 180 + 10 * (6 - rest.length)) ∧ rest.length ≤ 6) (by tb_rel) (by exact ⟨p4, _, _, _, rfl, hp5.mono (by omega), by simp [rngD]⟩) (fun d2 rest2 σ h => ?_) (fun σ h => ?_)
    · obtain ⟨p, z3, z11, z12, rfl, hp, h6⟩ := h
      rw [List.length_cons] at hp h6
      obtain ⟨V, p', e, hp', hV⟩ := t_bent hp (by omega) g.ok (by omega)
      refine ⟨_, by tb_rel, ?_⟩
      rcases hV with ⟨v, rfl, hv⟩ | ⟨x, k, rfl, hx⟩
      · have a1 := t_are_no hv
        have a2 := t_made_no hv
        have hal : al 6 v = true := by rcases hv with rfl | rfl | rfl | rfl | rfl <;> rfl
        have a3 := t_alL (ds := [.str "row", .str "plan", v]) (by simp) (fun y hy => by
          simp only [List.mem_cons, List.not_mem_nil, or_false] at hy
          rcases hy with rfl | rfl | rfl
          · rfl
          · rfl
          · exact hal)
        (repeat' kbo_bools)
        exact ⟨_, _, _, _, rfl, hp'.mono (by omega), by omega⟩
      · obtain ⟨ds, hds⟩ : ∃ ds, ds = (rs.map R4.d).take k ++ [x] ++ (rs.map R4.d).drop k := ⟨_, rfl⟩
        rw [← hds] at e
        have hdl : ds.length ≤ 100 := by rw [hds]; simp only [List.length_append, List.length_take, List.length_drop, List.length_map, List.length_cons, List.length_nil]; omega
        have hdc : ∀ y ∈ ds, RowC y := fun y hy => by
          have hr4 : ∀ y ∈ rs.map R4.d, RowC y := fun y hy => by
            obtain ⟨r, hr, rfl⟩ := List.mem_map.mp hy
            exact r4_rowC (g.ok r hr)
          rw [hds] at hy
          rcases List.mem_append.mp hy with hy | hy
          · rcases List.mem_append.mp hy with hy | hy
            · exact hr4 y (List.mem_of_mem_take hy)
            · rw [List.mem_singleton.mp hy]; exact hx
          · exact hr4 y (List.mem_of_mem_drop hy)
        have a1 := t_are_L hdc hdl
        cases hb : areB ds with
        | true =>
          rw [hb] at a1
          obtain ⟨rs2, e2, ok2⟩ := all_r4 hdc (by unfold areB at hb; exact (Bool.and_eq_true_iff.mp hb).1)
          have ap2 : Ap4 rs2 := by rw [e2, areB_r4 ok2] at hb; exact of_decide_eq_true hb
          have a2 := t_made_good (V := .sh (.lst ds)) (V' := .sh (.lst ds)) (rs := rs2) (.inr (.inl (by rw [e2]; exact ⟨rfl, rfl⟩))) ok2 ap2 (by rw [e2, List.length_map] at hdl; exact hdl)
          have a3 := t_alL (ds := [.str "fine"]) (by simp) (fun y hy => by
            simp only [List.mem_cons, List.not_mem_nil, or_false] at hy
            subst hy
            rfl)
          (repeat' kbo_bools)
          exact ⟨_, _, _, _, rfl, hp'.mono (by omega), by omega⟩
        | false =>
          rw [hb] at a1
          have a2 := t_made_bad (V := .sh (.lst ds)) (V' := .sh (.lst ds)) (.inr (.inl ⟨rfl, rfl⟩)) rfl hdc hb hdl
          have hal : al 6 (.lst ds) = true := by
            simp only [al, Bool.and_eq_true, decide_eq_true_eq, List.all_eq_true]
            exact ⟨by omega, fun y hy => al_rowC (hdc y hy)⟩
          have a3 := t_alL (ds := [.str "row", .str "plan", .lst ds]) (by simp) (fun y hy => by
            simp only [List.mem_cons, List.not_mem_nil, or_false] at hy
            rcases hy with rfl | rfl | rfl
            · rfl
            · rfl
            · exact hal)
          (repeat' kbo_bools)
          exact ⟨_, _, _, _, rfl, hp'.mono (by omega), by omega⟩
    · obtain ⟨p, z3, z11, z12, rfl, hp, h6⟩ := h
      (repeat' kbo_bools)
      exact ⟨p, _, _, _, _, _, _, _, _, _, _, _, _, _, rfl, hp.mono (by omega), by omega⟩
  · obtain ⟨p, x2, x3, x4, x5, x6, x7, x8, x9, x10, x11, x12, x13, x14, rfl, hp, _⟩ := h
    have i1 : d_Plan___init__ [.obj 2 [], .sh (.tup [])] = .ret (.sh .non) [.obj 2 (planF []), .sh (.tup [])] := t_init_good (rs := []) (.inr (.inr ⟨rfl, rfl⟩)) (fun _ z => by cases z) .nil (by simp)
    have i2 : d_Plan___init__ [.obj 2 [], oL []] = .ret (.sh .non) [.obj 2 (planF []), .sh (.lst [])] := t_init_good (rs := []) (.inl ⟨rfl, rfl⟩) (fun _ z => by cases z) .nil (by simp)
    have f1 := fz_plan (rs := [])
    have q1 := t_eq (rs := []) (ss := []) (fun _ z => by cases z) (fun _ z => by cases z)
    rw [show decide (srtBy R4.d [] = srtBy R4.d []) = true by simp] at q1
    have em := t_many (rs := []) (by simp)
    (repeat' kbo_bools)
    rfl
theorem law_true : ∀ ns : List Int, ns.length ≤ 63 → ∃ os', d_law [.sh (.wls (ns.map D.int))] = .ret (.sh (.bl true)) os' ∧ os'.length = 1 := fun ns h => ⟨_, t_law h, rfl⟩
end Lw
end
end
open PySem PySem.W PyProof.Rows in
set_option maxRecDepth 100000 in
set_option maxHeartbeats 0 in
theorem PySem.Challenge.cw_keepersnotes_k29_plans_made_with_notes_holds : PySem.Challenge.rw_keepersnotes_k29_plans_made_with_notes.Holds := by
  w_on; o_law; k_head; (case hw => w_witness2)
  k_fill
  refine Den.walk_den (l := PySem.Challenge.rw_keepersnotes_k29_plans_made_with_notes) (k := 9) (den := Lw.d_law) (cls := (fun n => match n with | 1 => 44 | _ => 116)) rfl rfl ⟨rfl, by decide, by decide⟩ (fun w h Y => PySem.W.kIn_of Y) ?F Lw.law_true
  case F =>
    intro w mg fa h KX G hmg
    refine' Lw.all_mk KX G hmg ?a_BadRow ?xL_BadRow ?rf_BadRow ?sa_BadRow ?ga_BadRow ?gg_BadRow ?kp_BadRow ?ex_BadRow ?tC_BadRow ?hd_BadRow ?iC_BadRow ?sC_BadRow ?no_BadRow_what ?no_BadRow_row ?a_Plan ?pg_Plan ?hd_Plan ?po_Plan ?sa_Plan ?mk_Plan ?kp_Plan ?na_Plan_rows ?na_Plan__told ?Ia_Plan ?In_Plan ?It_Plan ?Io_Plan ?iC_Plan ?tC_Plan ?Iz_Plan_NoneType ?Iz_Plan_bool ?Iz_Plan_int ?Iz_Plan_str ?Iz_Plan_tuple ?Iz_Plan_list ?Iz_Plan_dict ?En_Plan ?a_BadRow___init__ ?t_BadRow___init__ ?l_BadRow___init__ ?c_BadRow___init__ ?k_BadRow___init__ ?a_is_name ?l_is_name ?c_is_name ?k_is_name ?a_is_whole ?u_is_whole ?l_is_whole ?c_is_whole ?k_is_whole ?a_is_listed ?l_is_listed ?c_is_listed ?k_is_listed ?a_is_plan_row ?l_is_plan_row ?c_is_plan_row ?k_is_plan_row ?a__law_pen ?l__law_pen ?c__law_pen ?k__law_pen ?a__law_draw ?l__law_draw ?c__law_draw ?k__law_draw ?a__law_pick ?l__law_pick ?c__law_pick ?k__law_pick ?a__law_shuffled ?l__law_shuffled ?c__law_shuffled ?k__law_shuffled ?a__law_name ?l__law_name ?c__law_name ?k__law_name ?a__law_names ?l__law_names ?c__law_names ?k__law_names ?a__law_alike ?l__law_alike ?c__law_alike ?k__law_alike ?a__law_is_name ?l__law_is_name ?c__law_is_name ?k__law_is_name ?a__law_plan_rows ?l__law_plan_rows ?c__law_plan_rows ?k__law_plan_rows ?a__law_is_number ?l__law_is_number ?c__law_is_number ?k__law_is_number ?a__law_are_rows ?l__law_are_rows ?c__law_are_rows ?k__law_are_rows ?a_Plan___init__ ?i_Plan___init__ ?l_Plan___init__ ?c_Plan___init__ ?k_Plan___init__ ?a__law_made ?l__law_made ?c__law_made ?k__law_made ?a__law_bent ?l__law_bent ?c__law_bent ?k__law_bent ?a_Plan___eq__ ?i_Plan___eq__ ?l_Plan___eq__ ?c_Plan___eq__ ?k_Plan___eq__ ?a_Plan_many_notes ?i_Plan_many_notes ?l_Plan_many_notes ?c_Plan_many_notes ?k_Plan_many_notes ?a_Plan___len__ ?i_Plan___len__ ?l_Plan___len__ ?c_Plan___len__ ?k_Plan___len__ ?a_Plan_row_at ?i_Plan_row_at ?l_Plan_row_at ?c_Plan_row_at ?k_Plan_row_at ?a_law ?l_law ?c_law ?k_law ?n_isinstance ?n_str ?n_len ?n_int ?n_bool ?n_tuple ?n_list ?n_range ?n_zip ?n_all ?n_sorted ?n_max ?q_MOST_NUMBER
    (case a_BadRow => k_is)
    (case xL_BadRow => k_is)
    (case rf_BadRow => decide +kernel)
    (case sa_BadRow => k_is)
    (case ga_BadRow => k_is)
    (case gg_BadRow => k_is)
    (case kp_BadRow => k_is)
    (case ex_BadRow => k_is)
    (case tC_BadRow => k_is)
    (case hd_BadRow => k_is)
    (case iC_BadRow => k_is)
    (case sC_BadRow => k_is)
    (case no_BadRow_what => k_is)
    (case no_BadRow_row => k_is)
    (case a_Plan => k_is)
    (case pg_Plan => k_is)
    (case hd_Plan => k_is)
    (case po_Plan => k_is)
    (case sa_Plan => k_is)
    (case mk_Plan => k_is)
    (case kp_Plan => k_is)
    (case na_Plan_rows => k_is)
    (case na_Plan__told => k_is)
    (case Ia_Plan => k_is)
    (case In_Plan => k_is)
    (case It_Plan => k_is)
    (case Io_Plan => k_is)
    (case iC_Plan => k_is)
    (case tC_Plan => k_is)
    (case Iz_Plan_NoneType => k_is)
    (case Iz_Plan_bool => k_is)
    (case Iz_Plan_int => k_is)
    (case Iz_Plan_str => k_is)
    (case Iz_Plan_tuple => k_is)
    (case Iz_Plan_list => k_is)
    (case Iz_Plan_dict => k_is)
    (case En_Plan => k_is)
    (case a_BadRow___init__ => k_is)
    (case t_BadRow___init__ => k_is)
    (case l_BadRow___init__ => k_is)
    (case c_BadRow___init__ => k_is)
    (case k_BadRow___init__ => k_is)
    (case a_is_name => k_is)
    (case l_is_name => k_is)
    (case c_is_name => k_is)
    (case k_is_name => k_is)
    (case a_is_whole => k_is)
    (case l_is_whole => k_is)
    (case c_is_whole => k_is)
    (case k_is_whole => k_is)
    (case a_is_listed => k_is)
    (case l_is_listed => k_is)
    (case c_is_listed => k_is)
    (case k_is_listed => k_is)
    (case a_is_plan_row => k_is)
    (case l_is_plan_row => k_is)
    (case c_is_plan_row => k_is)
    (case k_is_plan_row => k_is)
    (case a__law_pen => k_is)
    (case l__law_pen => k_is)
    (case c__law_pen => k_is)
    (case k__law_pen => k_is)
    (case a__law_draw => k_is)
    (case l__law_draw => k_is)
    (case c__law_draw => k_is)
    (case k__law_draw => k_is)
    (case a__law_pick => k_is)
    (case l__law_pick => k_is)
    (case c__law_pick => k_is)
    (case k__law_pick => k_is)
    (case a__law_shuffled => k_is)
    (case l__law_shuffled => k_is)
    (case c__law_shuffled => k_is)
    (case k__law_shuffled => k_is)
    (case a__law_name => k_is)
    (case l__law_name => k_is)
    (case c__law_name => k_is)
    (case k__law_name => k_is)
    (case a__law_names => k_is)
    (case l__law_names => k_is)
    (case c__law_names => k_is)
    (case k__law_names => k_is)
    (case a__law_alike => k_is)
    (case l__law_alike => k_is)
    (case c__law_alike => k_is)
    (case k__law_alike => k_is)
    (case a__law_is_name => k_is)
    (case l__law_is_name => k_is)
    (case c__law_is_name => k_is)
    (case k__law_is_name => k_is)
    (case a__law_plan_rows => k_is)
    (case l__law_plan_rows => k_is)
    (case c__law_plan_rows => k_is)
    (case k__law_plan_rows => k_is)
    (case a__law_is_number => k_is)
    (case l__law_is_number => k_is)
    (case c__law_is_number => k_is)
    (case k__law_is_number => k_is)
    (case a__law_are_rows => k_is)
    (case l__law_are_rows => k_is)
    (case c__law_are_rows => k_is)
    (case k__law_are_rows => k_is)
    (case a_Plan___init__ => k_is)
    (case i_Plan___init__ => k_is)
    (case l_Plan___init__ => k_is)
    (case c_Plan___init__ => k_is)
    (case k_Plan___init__ => k_is)
    (case a__law_made => k_is)
    (case l__law_made => k_is)
    (case c__law_made => k_is)
    (case k__law_made => k_is)
    (case a__law_bent => k_is)
    (case l__law_bent => k_is)
    (case c__law_bent => k_is)
    (case k__law_bent => k_is)
    (case a_Plan___eq__ => k_is)
    (case i_Plan___eq__ => k_is)
    (case l_Plan___eq__ => k_is)
    (case c_Plan___eq__ => k_is)
    (case k_Plan___eq__ => k_is)
    (case a_Plan_many_notes => k_is)
    (case i_Plan_many_notes => k_is)
    (case l_Plan_many_notes => k_is)
    (case c_Plan_many_notes => k_is)
    (case k_Plan_many_notes => k_is)
    (case a_Plan___len__ => k_is)
    (case i_Plan___len__ => k_is)
    (case l_Plan___len__ => k_is)
    (case c_Plan___len__ => k_is)
    (case k_Plan___len__ => k_is)
    (case a_Plan_row_at => k_is)
    (case i_Plan_row_at => k_is)
    (case l_Plan_row_at => k_is)
    (case c_Plan_row_at => k_is)
    (case k_Plan_row_at => k_is)
    (case a_law => k_is)
    (case l_law => k_is)
    (case c_law => k_is)
    (case k_law => k_is)
    (case n_isinstance => k_is)
    (case n_str => k_is)
    (case n_len => k_is)
    (case n_int => k_is)
    (case n_bool => k_is)
    (case n_tuple => k_is)
    (case n_list => k_is)
    (case n_range => k_is)
    (case n_zip => k_is)
    (case n_all => k_is)
    (case n_sorted => k_is)
    (case n_max => k_is)
    (case q_MOST_NUMBER => k_is)
    (case u_is_whole => k_is)
