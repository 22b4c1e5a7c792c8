import PyProof.Rows.All
import HandS.ForMost
import HandS.HeadHook2
import HandS.TupLe
import HandS.Wide
import HandS.TupAny
import HandS.TupMul
import HandS.IsInst
import HandS.Star
import HandS.Deep
import HandS.Zip
import HandS.NoneIn
import HandS.ExcCtx
import HandS.HotCalls
import HandS.ExcInit
import HandS.ExcField
import HandS.ExcOwn
import KE.KExcIs
import OpenK.KMeth
import HandS.Conv
import OpenK.KWalk
import HandS.HeadWalk
import HandS.Dict
import HandS.Defaults
import HandS.HeadEnd
import HandS.HeadHook4
import HandS.Head0
import HandS.Head1
import HandS.Head2
import PySem.Challenge.RW_latecomers_k03_vector_in_a_space
set_option Elab.async false
set_option linter.all false
set_option maxRecDepth 100000
set_option maxHeartbeats 4000000

/-! F1: pure tree data D with an own-flag, how a value bears a datum (Rep), and the state of roots (SR) with its frame rule. -/
namespace FL
open PySem PySem.Spec PyProof.Rows L2

/-- own: may be changed here; shr: shared, not changed any more; frz: the script -/
inductive Fl where
  | own | shr | frz
  deriving DecidableEq
def Fl.sh : Fl → Fl
  | .own => .shr
  | .shr => .shr
  | .frz => .frz
theorem Fl.sh_sh (f : Fl) : f.sh.sh = f.sh := by cases f <;> rfl
inductive D where
  | non | bl (b : Bool) | int (i : Int) | str (x : Str)
  | tup (xs : List D)
  | lst (o : Fl) (xs : List D)
  | obj (o : Fl) (c : Str) (ns : List Str) (xs : List D)
  | hole (v : V)
  | dic
  | any

mutual
def share : D → D
  | .tup xs => .tup (shares xs)
  | .lst f xs => .lst f.sh (shares xs)
  | .obj f c ns xs => .obj f.sh c ns (shares xs)
  | .non => .non
  | .bl b => .bl b
  | .int i => .int i
  | .str x => .str x
  | .hole v => .hole v
  | .dic => .dic
  | .any => .any
def shares : List D → List D
  | [] => []
  | d :: ds => share d :: shares ds
end
theorem shares_eq : ∀ ds, shares ds = ds.map share
  | [] => by simp [shares]
  | d :: ds => by simp [shares, shares_eq ds]
theorem shares_get (ds : List D) (i : Nat) : (shares ds)[i]? = ds[i]?.map share := by rw [shares_eq]; simp
theorem shares_len (ds : List D) : (shares ds).length = ds.length := by rw [shares_eq]; simp
mutual
theorem share_share : ∀ d, share (share d) = share d
  | .tup xs => by simp [share, shares_shares xs]
  | .lst f xs => by simp [share, shares_shares xs, Fl.sh_sh f]
  | .obj f c ns xs => by simp [share, shares_shares xs, Fl.sh_sh f]
  | .non => by simp [share]
  | .bl b => by simp [share]
  | .int i => by simp [share]
  | .str x => by simp [share]
  | .hole v => by simp [share]
  | .dic => by simp [share]
  | .any => by simp [share]
theorem shares_shares : ∀ ds, shares (shares ds) = shares ds
  | [] => by simp [shares]
  | d :: ds => by simp [shares, share_share d, shares_shares ds]
end

def Le (G H : Hp) : Prop := ∀ a o, G a = some o → H a = some o
theorem Le.refl {G : Hp} : Le G G := fun _ _ h => h
theorem Le.trans {A B C : Hp} (h : Le A B) (g : Le B C) : Le A C := fun a o e => g a o (h a o e)
def hid (F : List Addr) (H : Hp) : Hp := fun a => if a ∈ F then none else H a
theorem hid_out {F : List Addr} {H : Hp} {a : Addr} (h : a ∉ F) : hid F H a = H a := if_neg h
theorem hid_some {F : List Addr} {H : Hp} {a : Addr} {o : HO} : hid F H a = some o ↔ a ∉ F ∧ H a = some o := by
  unfold hid
  by_cases h : a ∈ F
  · simp [h]
  · simp [h]
theorem hid_le {F : List Addr} {H : Hp} : Le (hid F H) H := fun a o e => (hid_some.mp e).2
theorem hid_mono {F F' : List Addr} {H : Hp} (h : ∀ a ∈ F', a ∈ F) : Le (hid F H) (hid F' H) := fun a o e => hid_some.mpr ⟨fun z => (hid_some.mp e).1 (h a z), (hid_some.mp e).2⟩
theorem hid_congr {F F' : List Addr} {H : Hp} (h : ∀ a, a ∈ F ↔ a ∈ F') : hid F H = hid F' H := by
  funext a
  unfold hid
  by_cases k : a ∈ F
  · rw [if_pos k, if_pos ((h a).mp k)]
  · rw [if_neg k, if_neg (fun z => k ((h a).mpr z))]
theorem Rd.le {G H : Hp} {a : Addr} {u : HO} (h : Rd G a u) (g : Le G H) : Rd H a u := by
  rcases h with h | ⟨o, h⟩
  · exact .inl (g _ _ h)
  · exact .inr ⟨o, g _ _ h⟩
theorem SqL.le {K : PySem.W.Frag} {G H : Hp} {a : Addr} {xs : List V} (h : SqL K G a xs) (g : Le G H) : SqL K H a xs := by
  rcases h with h | h
  · exact .inl (Rd.le h g)
  · exact .inr h
theorem SqT.le {K : PySem.W.Frag} {G H : Hp} {a : Addr} {xs : List V} (h : SqT K G a xs) (g : Le G H) : SqT K H a xs := by
  rcases h with h | h
  · exact .inl (Rd.le h g)
  · exact .inr h

mutual
inductive Rep (K : PySem.W.Frag) (G H : Hp) : V → D → List Addr → Prop
  | non : Rep K G H .non .non []
  | bl (b : Bool) : Rep K G H (.bl b) (.bl b) []
  | int (i : Int) : Rep K G H (.int i) (.int i) []
  | str (x : Str) : Rep K G H (.str x) (.str x) []
  | hole (v : V) : Rep K G H v (.hole v) []
  | dic {a : Addr} : G a = some (.dK []) → Rep K G H (.ref a) .dic []
  | any (v : V) : Rep K G H v .any []
  | tup {a : Addr} {vs : List V} {ds : List D} {F : List Addr} : SqT K G a vs → Reps K G H vs ds F → Rep K G H (.ref a) (.tup ds) F
  | lstF {a : Addr} {vs : List V} {ds : List D} : SqL K G a vs → Reps K G H vs ds [] → Rep K G H (.ref a) (.lst .frz ds) []
  | lstS {a : Addr} {vs : List V} {ds : List D} : G a = some (.lst vs) → Reps K G H vs ds [] → Rep K G H (.ref a) (.lst .shr ds) []
  | lstO {a : Addr} {vs : List V} {ds : List D} {F : List Addr} : H a = some (.lst vs) → Reps K G H vs ds F → Rep K G H (.ref a) (.lst .own ds) (a :: F)
  | objS {a dx : Addr} {c : Str} {ns : List Str} {vs : List V} {ds : List D} : G a = some (.ins (He.ga K c) dx (ns.zip vs)) → ns.length = vs.length → Reps K G H vs ds [] → Rep K G H (.ref a) (.obj .shr c ns ds) []
  | objO {a dx : Addr} {c : Str} {ns : List Str} {vs : List V} {ds : List D} {F : List Addr} : H a = some (.ins (He.ga K c) dx (ns.zip vs)) → ns.length = vs.length → Reps K G H vs ds F → Rep K G H (.ref a) (.obj .own c ns ds) (a :: F)
inductive Reps (K : PySem.W.Frag) (G H : Hp) : List V → List D → List Addr → Prop
  | nil : Reps K G H [] [] []
  | cons {v : V} {d : D} {vs : List V} {ds : List D} {F1 F2 : List Addr} : Rep K G H v d F1 → Reps K G H vs ds F2 → Reps K G H (v :: vs) (d :: ds) (F1 ++ F2)
end

section
variable {K : PySem.W.Frag} {G H G' H' : Hp}
mutual
theorem Rep.mono : ∀ {v : V} {d : D} {F : List Addr}, Rep K G H v d F → Le G G' → (∀ a ∈ F, H' a = H a) → Rep K G' H' v d F
  | _, _, _, .non, _, _ => .non
  | _, _, _, .bl b, _, _ => .bl b
  | _, _, _, .int i, _, _ => .int i
  | _, _, _, .str x, _, _ => .str x
  | _, _, _, .hole v, _, _ => .hole v
  | _, _, _, .dic s, g, _ => .dic (g _ _ s)
  | _, _, _, .any v, _, _ => .any v
  | _, _, _, .tup s r, g, h => .tup (SqT.le s g) (Reps.mono r g h)
  | _, _, _, .lstF s r, g, h => .lstF (SqL.le s g) (Reps.mono r g h)
  | _, _, _, .lstS s r, g, h => .lstS (g _ _ s) (Reps.mono r g h)
  | _, _, _, .lstO (a := a) s r, g, h => .lstO ((h a (by simp)).trans s) (Reps.mono r g fun b hb => h b (List.mem_cons_of_mem _ hb))
  | _, _, _, .objS s l r, g, h => .objS (g _ _ s) l (Reps.mono r g h)
  | _, _, _, .objO (a := a) s l r, g, h => .objO ((h a (by simp)).trans s) l (Reps.mono r g fun b hb => h b (List.mem_cons_of_mem _ hb))
theorem Reps.mono : ∀ {vs : List V} {ds : List D} {F : List Addr}, Reps K G H vs ds F → Le G G' → (∀ a ∈ F, H' a = H a) → Reps K G' H' vs ds F
  | _, _, _, .nil, _, _ => .nil
  | _, _, _, .cons r t, g, h => .cons (Rep.mono r g fun b hb => h b (List.mem_append_left _ hb)) (Reps.mono t g fun b hb => h b (List.mem_append_right _ hb))
end
mutual
theorem Rep.dom : ∀ {v : V} {d : D} {F : List Addr}, Rep K G H v d F → ∀ a ∈ F, ∃ o, H a = some o
  | _, _, _, .non => fun _ h => by simp at h
  | _, _, _, .bl b => fun _ h => by simp at h
  | _, _, _, .int i => fun _ h => by simp at h
  | _, _, _, .str x => fun _ h => by simp at h
  | _, _, _, .hole v => fun _ h => by simp at h
  | _, _, _, .dic s => fun _ h => by simp at h
  | _, _, _, .any v => fun _ h => by simp at h
  | _, _, _, .tup s r => Reps.dom r
  | _, _, _, .lstF s r => fun _ h => by simp at h
  | _, _, _, .lstS s r => fun _ h => by simp at h
  | _, _, _, .lstO (a := a) s r => fun b h => by
    rcases List.mem_cons.mp h with e | h
    · subst e; exact ⟨_, s⟩
    · exact Reps.dom r b h
  | _, _, _, .objS s l r => fun _ h => by simp at h
  | _, _, _, .objO (a := a) s l r => fun b h => by
    rcases List.mem_cons.mp h with e | h
    · subst e; exact ⟨_, s⟩
    · exact Reps.dom r b h
theorem Reps.dom : ∀ {vs : List V} {ds : List D} {F : List Addr}, Reps K G H vs ds F → ∀ a ∈ F, ∃ o, H a = some o
  | _, _, _, .nil => fun _ h => by simp at h
  | _, _, _, .cons r t => fun b h => (List.mem_append.mp h).elim (fun z => Rep.dom r b z) fun z => Reps.dom t b z
end
mutual
theorem Rep.share : ∀ {v : V} {d : D} {F : List Addr}, Rep K G H v d F → Le G G' → (∀ a ∈ F, G' a = H a) → Rep K G' H' v (share d) []
  | _, _, _, .non, _, _ => by simp only [FL.share]; exact .non
  | _, _, _, .bl b, _, _ => by simp only [FL.share]; exact .bl b
  | _, _, _, .int i, _, _ => by simp only [FL.share]; exact .int i
  | _, _, _, .str x, _, _ => by simp only [FL.share]; exact .str x
  | _, _, _, .hole v, _, _ => by simp only [FL.share]; exact .hole v
  | _, _, _, .dic s, g, _ => by simp only [FL.share]; exact .dic (g _ _ s)
  | _, _, _, .any v, _, _ => by simp only [FL.share]; exact .any v
  | _, _, _, .tup s r, g, h => by simp only [FL.share]; exact .tup (SqT.le s g) (Reps.share r g h)
  | _, _, _, .lstF s r, g, h => by simp only [FL.share]; exact .lstF (SqL.le s g) (Reps.share r g h)
  | _, _, _, .lstS s r, g, h => by simp only [FL.share]; exact .lstS (g _ _ s) (Reps.share r g h)
  | _, _, _, .lstO (a := a) s r, g, h => by
    simp only [FL.share]
    exact .lstS ((h a (by simp)).trans s) (Reps.share r g fun b hb => h b (List.mem_cons_of_mem _ hb))
  | _, _, _, .objS s l r, g, h => by simp only [FL.share]; exact .objS (g _ _ s) l (Reps.share r g h)
  | _, _, _, .objO (a := a) s l r, g, h => by
    simp only [FL.share]
    exact .objS ((h a (by simp)).trans s) l (Reps.share r g fun b hb => h b (List.mem_cons_of_mem _ hb))
theorem Reps.share : ∀ {vs : List V} {ds : List D} {F : List Addr}, Reps K G H vs ds F → Le G G' → (∀ a ∈ F, G' a = H a) → Reps K G' H' vs (shares ds) []
  | _, _, _, .nil, _, _ => by simp only [FL.shares]; exact .nil
  | _, _, _, .cons r t, g, h => by
    simp only [FL.shares]
    exact .cons (F1 := []) (F2 := []) (Rep.share r g fun b hb => h b (List.mem_append_left _ hb)) (Reps.share t g fun b hb => h b (List.mem_append_right _ hb))
end
mutual
theorem Rep.sharedF : ∀ {v : V} {d : D} {F : List Addr}, Rep K G H v d F → share d = d → F = []
  | _, _, _, .non, _ => rfl
  | _, _, _, .bl b, _ => rfl
  | _, _, _, .int i, _ => rfl
  | _, _, _, .str x, _ => rfl
  | _, _, _, .hole v, _ => rfl
  | _, _, _, .dic s, _ => rfl
  | _, _, _, .any v, _ => rfl
  | _, _, _, .tup s r, e => Reps.sharedF r (by simpa [FL.share] using e)
  | _, _, _, .lstF s r, _ => rfl
  | _, _, _, .lstS s r, _ => rfl
  | _, _, _, .lstO s r, e => by simp [FL.share, Fl.sh] at e
  | _, _, _, .objS s l r, _ => rfl
  | _, _, _, .objO s l r, e => by simp [FL.share, Fl.sh] at e
theorem Reps.sharedF : ∀ {vs : List V} {ds : List D} {F : List Addr}, Reps K G H vs ds F → shares ds = ds → F = []
  | _, _, _, .nil, _ => rfl
  | _, _, _, .cons r t, e => by
    simp only [FL.shares, List.cons.injEq] at e
    rw [Rep.sharedF r e.1, Reps.sharedF t e.2]; rfl
end
theorem Reps.length : ∀ {vs : List V} {ds : List D} {F : List Addr}, Reps K G H vs ds F → vs.length = ds.length
  | _, _, _, .nil => rfl
  | _, _, _, .cons _ t => by simp [Reps.length t]
theorem Reps.append : ∀ {vs vs' : List V} {ds ds' : List D} {F F' : List Addr}, Reps K G H vs ds F → Reps K G H vs' ds' F' → Reps K G H (vs ++ vs') (ds ++ ds') (F ++ F')
  | _, _, _, _, _, _, .nil, s => s
  | _, _, _, _, _, _, .cons r t, s => by rw [List.append_assoc]; exact .cons r (Reps.append t s)
theorem Reps.split : ∀ {vs : List V} {ds ds' : List D} {F : List Addr}, Reps K G H vs (ds ++ ds') F → ∃ us us' F1 F2, vs = us ++ us' ∧ F = F1 ++ F2 ∧ Reps K G H us ds F1 ∧ Reps K G H us' ds' F2
  | vs, [], ds', F, h => ⟨[], vs, [], F, rfl, rfl, .nil, h⟩
  | _, d :: ds, ds', _, .cons (F1 := F1) r t => by
    obtain ⟨us, us', A, B, e1, e2, h1, h2⟩ := Reps.split (ds := ds) t
    subst e1 e2
    exact ⟨_ :: us, us', F1 ++ A, B, rfl, by rw [List.append_assoc], .cons r h1, h2⟩
end

/-! ### roots -/
abbrev Root := Option V × Option D
inductive RepO (K : PySem.W.Frag) (G H : Hp) : List Root → List Addr → Prop
  | nil : RepO K G H [] []
  | skip {v : Option V} {rs : List Root} {F : List Addr} : RepO K G H rs F → RepO K G H ((v, none) :: rs) F
  | cons {v : V} {d : D} {rs : List Root} {F1 F2 : List Addr} : Rep K G H v d F1 → RepO K G H rs F2 → RepO K G H ((some v, some d) :: rs) (F1 ++ F2)
section
variable {K : PySem.W.Frag} {G H G' H' : Hp}
theorem RepO.mono {rs : List Root} {F : List Addr} (r : RepO K G H rs F) (g : Le G G') : (∀ a ∈ F, H' a = H a) → RepO K G' H' rs F := by
  induction r with
  | nil => exact fun _ => .nil
  | skip _ ih => exact fun h => .skip (ih h)
  | cons x _ ih => exact fun h => .cons (x.mono g fun b hb => h b (List.mem_append_left _ hb)) (ih fun b hb => h b (List.mem_append_right _ hb))
theorem RepO.dom {rs : List Root} {F : List Addr} (r : RepO K G H rs F) : ∀ a ∈ F, ∃ o, H a = some o := by
  induction r with
  | nil => exact fun _ h => by simp at h
  | skip _ ih => exact ih
  | cons x _ ih => exact fun b h => (List.mem_append.mp h).elim (fun z => x.dom b z) fun z => ih b z
theorem RepO.append {rs rs' : List Root} {F F' : List Addr} (r : RepO K G H rs F) (r' : RepO K G H rs' F') : RepO K G H (rs ++ rs') (F ++ F') := by
  induction r with
  | nil => exact r'
  | skip _ ih => exact .skip ih
  | cons x _ ih => rw [List.append_assoc]; exact .cons x ih
theorem RepO.split : ∀ {rs rs' : List Root} {F : List Addr}, RepO K G H (rs ++ rs') F → ∃ F1 F2, F = F1 ++ F2 ∧ RepO K G H rs F1 ∧ RepO K G H rs' F2
  | [], rs', F, h => ⟨[], F, rfl, .nil, h⟩
  | _ :: rs, rs', _, .skip h => by
    obtain ⟨F1, F2, e, a, b⟩ := RepO.split h
    exact ⟨F1, F2, e, .skip a, b⟩
  | _ :: rs, rs', _, .cons (F1 := A) x h => by
    obtain ⟨F1, F2, e, a, b⟩ := RepO.split h
    exact ⟨A ++ F1, F2, by rw [e, List.append_assoc], .cons x a, b⟩
theorem RepO.perm {rs rs' : List Root} (p : rs.Perm rs') : ∀ {F : List Addr}, RepO K G H rs F → ∃ F', F.Perm F' ∧ RepO K G H rs' F' := by
  induction p with
  | nil => exact fun {F} h => ⟨F, .refl _, h⟩
  | cons x _ ih =>
    intro F h
    cases h with
    | skip h => obtain ⟨F', q, h'⟩ := ih h; exact ⟨F', q, .skip h'⟩
    | cons r h => obtain ⟨F', q, h'⟩ := ih h; exact ⟨_ ++ F', q.append_left _, .cons r h'⟩
  | swap x y l =>
    intro F h
    cases h with
    | skip h =>
      cases h with
      | skip h => exact ⟨_, .refl _, .skip (.skip h)⟩
      | cons r h => exact ⟨_, .refl _, .cons r (.skip h)⟩
    | cons r h =>
      cases h with
      | skip h => exact ⟨_, .refl _, .skip (.cons r h)⟩
      | cons r' h =>
        refine ⟨_, ?_, .cons r' (.cons r h)⟩
        rw [← List.append_assoc, ← List.append_assoc]
        exact List.perm_append_comm.append_right _
  | trans _ _ ih1 ih2 =>
    intro F h
    obtain ⟨F', q, h'⟩ := ih1 h
    obtain ⟨F'', q', h''⟩ := ih2 h'
    exact ⟨F'', q.trans q', h''⟩

/-- Gf: what is kept for others; N: what others own; rs: the roots -/
def SR (K : PySem.W.Frag) (Gf : Hp) (N : List Addr) (H : Hp) (rs : List Root) : Prop :=
  (∀ a ∈ N, ∃ o, Gf a = some o) ∧ ∃ F, F.Nodup ∧ RepO K (hid (F ++ N) H) H rs F ∧ Le Gf (hid F H)
theorem SR.perm {Gf : Hp} {N : List Addr} {rs rs' : List Root} (h : SR K Gf N H rs) (p : rs.Perm rs') : SR K Gf N H rs' := by
  obtain ⟨n, F, nd, r, g⟩ := h
  obtain ⟨F', q, r'⟩ := r.perm p
  have e : ∀ a, a ∈ F ↔ a ∈ F' := fun a => q.mem_iff
  refine ⟨n, F', q.nodup_iff.mp nd, ?_, ?_⟩
  · rw [hid_congr (F' := F ++ N) fun a => by simp [e a]]; exact r'
  · rw [hid_congr (F' := F) fun a => (e a).symm]; exact g
/-- THE FRAME RULE -/
theorem SR.frame {Gc : Hp} {N : List Addr} {rs rs2 : List Root} (h : SR K Gc N H (rs ++ rs2)) :
    ∃ Gf N', SR K Gf N' H rs ∧ ∀ H' rs', SR K Gf N' H' rs' → SR K Gc N H' (rs' ++ rs2) := by
  obtain ⟨n, F, nd, r, g⟩ := h
  obtain ⟨F1, F2, e, r1, r2⟩ := r.split
  subst e
  obtain ⟨nd1, nd2, dj⟩ := List.nodup_append.mp nd
  have d2 := r2.dom
  have hN : ∀ a ∈ N, ∃ o, H a = some o ∧ Gc a = some o ∧ a ∉ F1 ++ F2 := fun a ha => by
    obtain ⟨o, e⟩ := n a ha
    have z := hid_some.mp (g a o e)
    exact ⟨o, z.2, e, z.1⟩
  refine ⟨hid F1 H, F2 ++ N, ⟨fun a ha => ?_, F1, nd1, ?_, Le.refl⟩, fun H' rs' h' => ?_⟩
  · rcases List.mem_append.mp ha with ha | ha
    · obtain ⟨o, e⟩ := d2 a ha
      exact ⟨o, hid_some.mpr ⟨fun z => dj a z a ha rfl, e⟩⟩
    · obtain ⟨o, e, _, z⟩ := hN a ha
      exact ⟨o, hid_some.mpr ⟨fun q => z (List.mem_append_left _ q), e⟩⟩
  · rw [← List.append_assoc]; exact r1
  · obtain ⟨_, F', nd', r', g'⟩ := h'
    have key : ∀ a o, a ∉ F1 → H a = some o → a ∉ F' ∧ H' a = some o := fun a o ha e => hid_some.mp (g' a o (hid_some.mpr ⟨ha, e⟩))
    have k2 : ∀ a ∈ F2, a ∉ F' ∧ H' a = H a := fun a ha => by
      obtain ⟨o, e⟩ := d2 a ha
      obtain ⟨x, y⟩ := key a o (fun z => dj a z a ha rfl) e
      exact ⟨x, y.trans e.symm⟩
    refine ⟨n, F' ++ F2, List.nodup_append.mpr ⟨nd', nd2, fun a ha b hb e => (k2 a (e ▸ hb)).1 ha⟩, ?_, fun a o e => ?_⟩
    · rw [List.append_assoc]
      refine r'.append ?_
      refine r2.mono (fun a o e => ?_) fun a ha => (k2 a ha).2
      obtain ⟨x, y⟩ := hid_some.mp e
      simp only [List.mem_append, not_or] at x
      obtain ⟨z, u⟩ := key a o x.1.1 y
      exact hid_some.mpr ⟨by simp only [List.mem_append, not_or]; exact ⟨z, x.1.2, x.2⟩, u⟩
    · obtain ⟨x, y⟩ := hid_some.mp (g a o e)
      simp only [List.mem_append, not_or] at x
      obtain ⟨z, u⟩ := key a o x.1 y
      exact hid_some.mpr ⟨by simp only [List.mem_append, not_or]; exact ⟨z, x.2⟩, u⟩
end
end FL

/-! F2: the small language (E, S) and its evaluator over D. -/
namespace FL
open PySem PySem.Spec PyProof.Rows L2

abbrev SZ : Nat := 16777216
inductive BOp where | add | sub | mul | fdiv | mod | pow
  deriving DecidableEq
inductive COp where | eq | ne | lt | le | gt | ge | isN | notN | mem | nomem
  deriving DecidableEq
inductive Blt where | len | int | list | tuple | sum | abs | min2 | max2 | all | any | min1 | max1
  deriving DecidableEq
inductive Cst where | non | bl (b : Bool) | int (i : Int) | str (x : Str)
inductive Ty where | bi (n : String) | own (c : Str)
inductive Tg where | name (i : Nat) | names (is : List Nat)

inductive Ix where
  | c (n : Int) | v (i : Nat) | cv (n : Int) (i : Nat)
inductive Pl where
  | nm (i : Nat) | sub (p : Pl) (ix : Ix)
inductive MOp where | app | clr | rev | pop | popI | ext | ins
  deriving DecidableEq
mutual
inductive E where
  | cst (c : Cst)
  | var (i : Nat)
  | mov (i : Nat)
  | bin (op : BOp) (a b : E)
  | neg (a : E)
  | not (a : E)
  | and (es : Es)
  | or (es : Es)
  | cmp (op : COp) (a b : E)
  | chn (op op' : COp) (a b c : E)
  | ite (c a b : E)
  | lst (es : Es)
  | tup (es : Es)
  | idx (a b : E)
  | idv (i : Nat) (b : E)
  | slc (a : E) (lo hi : OE)
  | call (f : Nat) (as : As)
  | meth (m : Str) (o : A) (as : As)
  | make (c : Str) (f : Nat) (as : As)
  | blt (b : Blt) (es : Es)
  | isi (a : E) (t : Ty)
  | fld (a : E) (f : Str)
  | flv (i : Nat) (f : Str)
  | comp (elt : E) (t : Tg) (it : It) (cond : OE)
  | shr (a : E)
  | lnv (i : Nat)
  | bor (a : E)
  | dic0
  | gti (o b : E)
  | oeq (o b : E)
  | lrg (a : E)
  | plc (p : Pl)
  | comp2 (elt : E) (t1 : Tg) (it1 : It) (t2 : Tg) (it2 : It) (cond : OE)
inductive OE where
  | no
  | yes (e : E)
inductive Es where
  | nil
  | cons (e : E) (es : Es)
  | star (e : E) (es : Es)
inductive A where
  | val (e : E)
  | ref (i : Nat)
inductive As where
  | nil
  | cons (a : A) (as : As)
inductive It where
  | seq (e : E)
  | rng (e : E)
  | rng2 (a b : E)
  | zip (a b : E)
  | enum (e : E)
end
/-- a statement whose call may raise -/
inductive May where
  | set (t : Tg) | ex | ret
mutual
/-- what a clause's suite reckons with: the caught exception -/
inductive SE where
  | cst (c : Cst)
  | fld (f : Str)
  | isx (c : Str)
  | tup (es : SEs)
  | and (a b : SE)
  | isint (f : Nat) (a : SE)
inductive SEs where
  | nil
  | cons (e : SE) (es : SEs)
end
inductive SS where
  | set (i : Nat) (e : SE)
  | ret (e : SE)
/-- one except clause: the class, the slot of its name, the suite -/
structure Hd where
  c : Str
  sl : Option Nat
  s : SS
mutual
inductive S where
  | set (t : Tg) (e : E)
  | setI (i : Nat) (b e : E)
  | setF (i : Nat) (f : Str) (e : E)
  | aug (i : Nat) (op : BOp) (e : E)
  | app (i : Nat) (e : E)
  | ex (e : E)
  | ite (c : E) (a b : Ss)
  | loop (t : Tg) (it : It) (b : Ss)
  | whl (c : E) (b : Ss)
  | ret (e : E)
  | retN
  | brk
  | cnt
  | pass
  | nev
  | setP (p : Pl) (ix : Ix) (e : E)
  | mutP (p : Pl) (op : MOp) (es : Es)
  | par (is : List Nat) (es : Es)
  | bor (is : List Nat) (s : S)
  | may (k : May) (e : E)
  | rse0 (c : Str)
  | rse1 (c f : Str) (e : E)
  | try_ (b : Ss) (hs : List Hd)
  | setS (i : Nat) (a b e : E)
  | swp (i j : Nat) (a b e : E)
  | loopO (t b : Nat) (body : Ss)
  | mutN (i : Nat) (op : MOp) (es : Es)
inductive Ss where
  | nil
  | cons (s : S) (ss : Ss)
  | ali (i : Nat) (p : Pl) (body rest : Ss)
  | alt (a b : Ss)
end
/-- how many statements of the text a suite stands for -/
def Ss.cnt : Ss → Nat
  | .nil => 0
  | .cons _ ss => ss.cnt + 1
  | .ali _ _ b r => b.cnt + r.cnt + 1
  | .alt a _ => a.cnt

/-! ### environments -/
abbrev Env := List (Option D)
def getS (ρ : Env) (i : Nat) : Option D := match ρ[i]? with
  | some (some d) => some d
  | _ => none
def putS (ρ : Env) (i : Nat) (d : D) : Option Env := if i < ρ.length then some (ρ.set i (some d)) else none
def putAll : Env → List Nat → List D → Option Env
  | ρ, [], [] => some ρ
  | ρ, i :: is, d :: ds => (putS ρ i d).bind fun ρ1 => putAll ρ1 is ds
  | _, _, _ => none
def bindT : Tg → D → Env → Option Env
  | .name i, d, ρ => putS ρ i d
  | .names is, .tup ds, ρ => if is.length = ds.length then putAll ρ is ds else none
  | .names is, .lst _ ds, ρ => if is.length = ds.length then putAll ρ is (shares ds) else none
  | .names _, _, _ => none
def Tg.slots : Tg → List Nat
  | .name i => [i]
  | .names is => is
def wipeD (ρ : Env) : List Nat → Env
  | [] => ρ
  | v :: vs => (wipeD ρ vs).set v none

/-! ### operations -/
theorem ite_cl {α : Type} {p : Prop} [inst : Decidable p] {a b : α} : @ite α p (Classical.propDecidable p) a b = if p then a else b := by
  by_cases h : p
  · rw [if_pos h, if_pos h]
  · rw [if_neg h, if_neg h]
def mulOk (a b : Int) : Bool := decide (a.natAbs < 2 ^ 64) || decide (b.natAbs < 2 ^ 64) || decide (a.natAbs.log2 + b.natAbs.log2 < 1000000)
def toP : D → Option PyData
  | .non => some .none
  | .bl b => some (.bool b)
  | .int i => some (.int i)
  | .str x => some (.str x)
  | .tup xs => (toPs xs).map .tuple
  | .lst _ xs => (toPs xs).map .list
  | .obj _ _ _ _ => none
  | .hole _ => none
  | .dic => none
  | .any => none
where toPs : List D → Option (List PyData)
  | [] => some []
  | d :: ds => (toP d).bind fun p => (toPs ds).map fun ps => p :: ps
def eqD (a b : D) : Option Bool := match toP a, toP b with
  | some x, some y => if (SeqAt.shaped x && SeqAt.shaped y) = true then some (PyData.eqv x y) else none
  | _, _ => none
noncomputable def binD : BOp → D → D → Option D
  | .add, .int a, .int b => some (.int (a + b))
  | .add, .lst f xs, .lst g ys => if f ≠ .frz ∧ g ≠ .frz ∧ xs.length + ys.length ≤ SZ then some (.lst .own (shares xs ++ shares ys)) else none
  | .add, .tup xs, .tup ys => if xs.length + ys.length ≤ SZ then some (.tup (shares xs ++ shares ys)) else none
  | .sub, .int a, .int b => some (.int (a - b))
  | .mul, .int a, .int b => @ite _ (mulOk a b = true) (Classical.propDecidable _) (some (.int (a * b))) none
  | .mul, .lst f xs, .int k => @ite _ (f ≠ .frz ∧ -(2 ^ 63) ≤ k ∧ k < 2 ^ 63 ∧ xs.length * k.toNat ≤ SZ) (Classical.propDecidable _) (some (.lst .own (List.replicate k.toNat (shares xs)).flatten)) none
  | .mul, .tup xs, .int k => @ite _ (xs ≠ [] ∧ 0 ≤ k ∧ k ≤ 1000 ∧ xs.length ≤ 1000) (Classical.propDecidable _) (some (.tup (List.replicate k.toNat (shares xs)).flatten)) none
  | .fdiv, .int a, .int b => @ite _ (0 < b ∧ (b.natAbs.log2 < 9000 ∨ a.natAbs.log2 < 13530)) (Classical.propDecidable _) (some (.int (a / b))) (@ite _ (b < 0 ∧ (b.natAbs.log2 < 9000 ∨ a.natAbs.log2 < 13530)) (Classical.propDecidable _) (some (.int (a.fdiv b))) none)
  | .mod, .int a, .int b => @ite _ (0 < b) (Classical.propDecidable _) (some (.int (a % b))) none
  | .pow, .int a, .int b => @ite _ (0 ≤ b ∧ b ≤ 1000000 ∧ (a.natAbs < 2 ^ 64 ∨ (a.natAbs.log2 < 1000 ∧ b ≤ 1000))) (Classical.propDecidable _) (some (.int (a ^ b.toNat))) none
  | _, _, _ => none
def flatD : D → Bool
  | .non => true
  | .bl _ => true
  | .int _ => true
  | .str _ => true
  | _ => false
def memD (x : D) (xs : List D) : Option Bool := match xs with
  | [] => some false
  | y :: ys => (eqD y x).bind fun b => if b = true then some true else memD x ys
/-- x in a list of data of any depth -/
def memP (x : D) (ys : List D) : Option Bool := match toP x, toP.toPs ys with
  | some p, some ds => if (SeqAt.shaped p && SeqAt.shaped (.list ds)) = true then some (ds.any fun z => PyData.eqv z p) else none
  | _, _ => none
def intsD : List D → Option (List Int)
  | [] => some []
  | .int i :: ds => (intsD ds).map (i :: ·)
  | _ :: _ => none
/-- <= of tuples of ints, as the kit says it -/
def leTI (ns ms : List Int) : Bool :=
  Ob.lexAt (fun j => decide (ns.getD j 0 = ms.getD j 0)) (fun j => decide (ns.getD j 0 ≤ ms.getD j 0)) (decide (ns.length ≤ ms.length)) 0 (min ns.length ms.length)
def cmpD : COp → D → D → Option Bool
  | .eq, a, b => eqD a b
  | .ne, a, b => (eqD a b).map (!·)
  | .lt, .int a, .int b => some (decide (a < b))
  | .le, .int a, .int b => some (decide (a ≤ b))
  | .le, .tup xs, .tup ys => (intsD xs).bind fun ns => (intsD ys).map fun ms => leTI ns ms
  | .gt, .int a, .int b => some (decide (b < a))
  | .ge, .int a, .int b => some (decide (b ≤ a))
  | .isN, .bl a, .bl b => some (decide (a = b))
  | .notN, .bl a, .bl b => some (!decide (a = b))
  | .isN, a, .non => match a with | .non => some true | .hole _ => none | .any => none | _ => some false
  | .notN, a, .non => match a with | .non => some false | .hole _ => none | .any => none | _ => some true
  | .mem, x, .lst _ ys => if flatD x = true ∧ ys.all flatD = true then memD x ys else memP x ys
  | .mem, x, .tup ys => if flatD x = true ∧ ys.all flatD = true then memD x ys else none
  | .nomem, x, .lst _ ys => if flatD x = true ∧ ys.all flatD = true then (memD x ys).map (!·) else (memP x ys).map (!·)
  | .nomem, x, .tup ys => if flatD x = true ∧ ys.all flatD = true then (memD x ys).map (!·) else none
  | _, _, _ => none
def idxD : D → D → Option D
  | .lst _ xs, .int i => (atI xs i).map share
  | .tup xs, .int i => (atI xs i).map share
  | _, _ => none
/-- x[i] of a name: the item becomes shared within it -/
def idvD : D → D → Option (D × D)
  | .lst f xs, .int i => (ixN xs.length i).bind fun j => (xs[j]?).map fun d => (share d, .lst f (xs.set j (share d)))
  | .tup xs, .int i => (ixN xs.length i).bind fun j => (xs[j]?).map fun d => (share d, .tup (xs.set j (share d)))
  | _, _ => none
def cutD (xs : List D) (lo hi : Option Int) : List D := (xs.drop (HT.sIx xs.length 0 lo)).take (HT.sIx xs.length xs.length hi - HT.sIx xs.length 0 lo)
def slcD : D → Option Int → Option Int → Option D
  | .lst _ xs, lo, hi => some (.lst .own (cutD (shares xs) lo hi))
  | _, _, _ => none
def boolsD : List D → Option (List Bool)
  | [] => some []
  | .bl b :: ds => (boolsD ds).map (b :: ·)
  | _ :: _ => none
def d1 (f : D → Option D) : List D → Option D
  | [x] => f x
  | _ => none
def d2 (f : D → D → Option D) : List D → Option D
  | [x, y] => f x y
  | _ => none
def lenD : D → Option D
  | .lst _ xs => some (.int xs.length)
  | .tup xs => some (.int xs.length)
  | _ => none
def intD : D → Option D
  | .int i => some (.int i)
  | .bl b => some (.int (if b then 1 else 0))
  | _ => none
def listD : D → Option D
  | .lst _ xs => some (.lst .own (shares xs))
  | .tup xs => some (.lst .own (shares xs))
  | _ => none
def tupleD : D → Option D
  | .lst _ xs => some (.tup (shares xs))
  | .tup xs => some (.tup (shares xs))
  | _ => none
def sumD : D → Option D
  | .lst _ xs => (intsD xs).map fun ns => .int ns.sum
  | _ => none
def absD : D → Option D
  | .int i => some (.int (if i < 0 then -i else i))
  | _ => none
def min2D : D → D → Option D
  | .int i, .int j => some (.int (if j < i then j else i))
  | _, _ => none
def max2D : D → D → Option D
  | .int i, .int j => some (.int (if j > i then j else i))
  | _, _ => none
def maxI : List Int → Int
  | [] => 0
  | [a] => a
  | a :: b :: t => max a (maxI (b :: t))
def minI : List Int → Int
  | [] => 0
  | [a] => a
  | a :: b :: t => min a (minI (b :: t))
def max1D : D → Option D
  | .lst _ xs => (intsD xs).bind fun ns => if ns = [] then none else some (.int (maxI ns))
  | _ => none
def min1D : D → Option D
  | .lst _ xs => (intsD xs).bind fun ns => if ns = [] then none else some (.int (minI ns))
  | _ => none
def allD : D → Option D
  | .lst _ xs => (boolsD xs).map fun bs => .bl (bs.all id)
  | _ => none
def anyD : D → Option D
  | .lst _ xs => (boolsD xs).map fun bs => .bl (bs.any id)
  | _ => none
def bltD : Blt → List D → Option D
  | .len => d1 lenD
  | .int => d1 intD
  | .list => d1 listD
  | .tuple => d1 tupleD
  | .sum => d1 sumD
  | .abs => d1 absD
  | .min2 => d2 min2D
  | .max2 => d2 max2D
  | .all => d1 allD
  | .any => d1 anyD
  | .min1 => d1 min1D
  | .max1 => d1 max1D
def isiD : D → Ty → Option Bool
  | .obj _ c _ _, .own c' => if c = c' then some true else none
  | .obj _ _ _ _, _ => none
  | .hole _, _ => none
  | .any, _ => none
  | _, .own _ => some false
  | .dic, .bi n => some (decide (n = "dict"))
  | .non, .bi n => some (decide (n = "NoneType"))
  | .bl _, .bi n => some (decide (n = "bool" ∨ n = "int"))
  | .int _, .bi n => some (decide (n = "int"))
  | .str _, .bi n => some (decide (n = "str"))
  | .tup _, .bi n => some (decide (n = "tuple"))
  | .lst _ _, .bi n => some (decide (n = "list"))
def look : List Str → List D → Str → Option D
  | n :: ns, d :: ds, f => if f = n then some d else look ns ds f
  | _, _, _ => none
/-- is f a field of the object's class? -/
def hasFld (cs : List (Str × List Str)) (f : Str) : D → Bool
  | .obj _ c _ _ => cs.any fun p => decide (p.1 = c) && p.2.contains f
  | _ => false
def fldD (d : D) (f : Str) : Option D := match d with
  | .obj _ _ ns ds => (look ns ds f).map share
  | _ => none
def shareAt : List Str → List D → Str → List D
  | n :: ns, d :: ds, f => if f = n then share d :: ds else d :: shareAt ns ds f
  | _, ds, _ => ds
def flvD (d : D) (f : Str) : Option (D × D) := match d with
  | .obj o c ns ds => (look ns ds f).map fun d => (share d, .obj o c ns (shareAt ns ds f))
  | _ => none
/-- a field is set: the names, the data behind -/
def putD : List Str → List D → Str → D → List Str × List D
  | n :: ns, d :: ds, f, v => if f = n then (n :: ns, v :: ds) else let r := putD ns ds f v; (n :: r.1, d :: r.2)
  | ns, ds, f, v => (ns ++ [f], ds ++ [v])
def augD : BOp → D → D → Option D
  | .add, .int a, .int b => some (.int (a + b))
  | .sub, .int a, .int b => some (.int (a - b))
  | _, _, _ => none
def isLst : D → Bool
  | .lst _ _ => true
  | _ => false
def appD : D → D → Option D
  | .lst .own xs, d => if xs.length < SZ then some (.lst .own (xs ++ [d])) else none
  | _, _ => none
/-- x[a:b] = d -/
noncomputable def slcS : D → D → D → D → Option D
  | .lst .own xs, .int a, .int b, .lst .own ys => @ite _ (0 ≤ a ∧ a ≤ b ∧ b ≤ xs.length ∧ xs.length + ys.length ≤ SZ) (Classical.propDecidable _) (some (.lst .own (xs.take a.toNat ++ ys ++ xs.drop b.toNat))) none
  | _, _, _, _ => none
def setID : D → D → D → Option D
  | .lst .own xs, .int k, d => (ixN xs.length k).map fun j => .lst .own (xs.set j d)
  | _, _, _ => none
def setFD : D → Str → D → Option D
  | .obj .own c ns ds, f, d => if ds.length < 1000 then some (.obj .own c (putD ns ds f d).1 (putD ns ds f d).2) else none
  | _, _, _ => none
def rngL (lo : Int) (n : Nat) : List D := (List.range n).map fun (k : Nat) => D.int (lo + (k : Int))
def enumL (k : Nat) : List D → List D
  | [] => []
  | d :: ds => .tup [.int (k : Int), d] :: enumL (k + 1) ds
def zipL : List D → List D → List D
  | a :: as, b :: bs => .tup [a, b] :: zipL as bs
  | _, _ => []

def setSeq : D → List D → D
  | .lst f _, ds => .lst f ds
  | .tup _, ds => .tup ds
  | .obj o c ns _, ds => .obj o c ns ds
  | d, _ => d
def itemsD : D → List D
  | .lst _ ds => ds
  | .tup ds => ds
  | .obj _ _ _ ds => ds
  | _ => []
/-- may be changed within -/
def ownC : D → Bool
  | .lst .own _ => true
  | .tup _ => true
  | _ => false
def get1 (d : D) (n : Int) : Option D := if ownC d = true then (ixN (itemsD d).length n).bind fun j => (itemsD d)[j]? else none
def put1 (d : D) (n : Int) (y : D) : Option D := if ownC d = true then (ixN (itemsD d).length n).map fun j => setSeq d ((itemsD d).set j y) else none
def Pl.base : Pl → Nat
  | .nm i => i
  | .sub p _ => p.base
def intS (ρ : Env) (i : Nat) : Option Int := match getS ρ i with
  | some (.int n) => some n
  | _ => none
def ixD (ρ : Env) : Ix → Option Int
  | .c n => some n
  | .v i => intS ρ i
  | .cv n i => (intS ρ i).map fun k => n + k
/-- the datum at a place -/
def getP (ρ : Env) : Pl → Option D
  | .nm i => getS ρ i
  | .sub p ix => (getP ρ p).bind fun x => (ixD ρ ix).bind fun n => get1 x n
/-- a place gets a datum: the name's datum behind it -/
def putP (ρ : Env) : Pl → D → Option D
  | .nm _, y => some y
  | .sub p ix, y => (getP ρ p).bind fun x => (ixD ρ ix).bind fun n => (put1 x n y).bind fun x' => putP ρ p x'
noncomputable def mopD : MOp → List D → List D → Option (List D)
  | .app, ds, [d] => if ds.length < SZ then some (ds ++ [d]) else none
  | .clr, _, [] => some []
  | .rev, ds, [] => some ds.reverse
  | .pop, ds, [] => if ds.isEmpty = true then none else some ds.dropLast
  | .popI, ds, [.int i] => @ite _ (-(2 ^ 62) ≤ i ∧ i < 2 ^ 62) (Classical.propDecidable _) ((ixN ds.length i).map fun j => ds.eraseIdx j) none
  | .ext, ds, [.lst f xs] => if f ≠ .frz ∧ ds.length + xs.length ≤ SZ then some (ds ++ shares xs) else none
  | .ins, ds, [.int i, d] => @ite _ (0 ≤ i ∧ i < 2 ^ 62 ∧ ds.length < SZ) (Classical.propDecidable _) (some (ds.take i.toNat ++ [d] ++ ds.drop i.toNat)) none
  | _, _, _ => none
def lstO : D → Option (List D)
  | .lst .own ds => some ds
  | _ => none

mutual
/-- a datum that leans on nothing that others hold -/
def closedD : D → Bool
  | .tup xs => closedL xs
  | .lst .own xs => closedL xs
  | .lst .shr _ => false
  | .lst .frz _ => false
  | .obj .own _ _ xs => closedL xs
  | .obj .shr _ _ _ => false
  | .obj .frz _ _ _ => false
  | .hole _ => false
  | .dic => false
  | .any => false
  | .non => true
  | .bl _ => true
  | .int _ => true
  | .str _ => true
def closedL : List D → Bool
  | [] => true
  | d :: ds => closedD d && closedL ds
end
def viewD (ρ : Env) : Env := ρ.map fun o => o.map share

/-! ### flows, loops -/
/-- an exception: its class, its field -/
structure Exn where
  c : Str
  a : Option (Str × D)
inductive Flow where
  | nx (ρ : Env) | rt (d : D) (ρ : Env) | bk (ρ : Env) | ct (ρ : Env) | ex (x : Exn) (ρ : Env)
def ixsD (ρ : Env) : Pl → Option (List Int)
  | .nm _ => some []
  | .sub p ix => (ixsD ρ p).bind fun ns => (ixD ρ ix).map fun n => ns ++ [n]
/-- the datum at a path -/
def getN : List Int → D → Option D
  | [], d => some d
  | n :: ns, d => (get1 d n).bind fun x => getN ns x
def putN : List Int → D → D → Option D
  | [], _, y => some y
  | n :: ns, d, y => (get1 d n).bind fun x => (putN ns x y).bind fun x' => put1 d n x'
/-- slot i's datum goes back to where it was taken from: into slot b, at the path ns, where the value v stands -/
noncomputable def giveE (i b : Nat) (ns : List Int) (v : V) (ρ : Env) : Option Env := (getS ρ i).bind fun y => (getS ρ b).bind fun d => @ite _ (getN ns d = some (.hole v)) (Classical.propDecidable _) ((putN ns d y).map fun z => (ρ.set i none).set b (some z)) none
noncomputable def giveF (i b : Nat) (ns : List Int) (v : V) : Flow → Option Flow
  | .nx ρ => (giveE i b ns v ρ).map .nx
  | .rt d ρ => (giveE i b ns v ρ).map (.rt d)
  | .bk ρ => (giveE i b ns v ρ).map .bk
  | .ct ρ => (giveE i b ns v ρ).map .ct
  | .ex x ρ => (giveE i b ns v ρ).map (.ex x)
open Classical in
/-- what comes for each value -/
noncomputable def allV (g : V → Option Flow) : Option Flow := if h : ∃ r, ∀ v, g v = some r then some h.choose else none
theorem allV_of {g : V → Option Flow} {r : Flow} (h : ∀ v, g v = some r) : allV g = some r := by
  have he : ∃ r, ∀ v, g v = some r := ⟨r, h⟩
  unfold allV
  rw [dif_pos he]
  have := he.choose_spec .non
  rw [h .non] at this
  exact this.symm
theorem allV_some {g : V → Option Flow} {r : Flow} (h : allV g = some r) (v : V) : g v = some r := by
  unfold allV at h
  split at h
  · rename_i he
    rw [← h]; exact he.choose_spec v
  · cases h
def lenO (ρ : Env) (b : Nat) : Option Nat := (getS ρ b).bind fun d => (lstO d).map fun ds => ds.length
noncomputable def stepO (body : Env → Option Flow) (t b j : Nat) (ρ : Env) : Option Flow := (getS ρ b).bind fun d => (lstO d).bind fun ds => (ds[j]?).bind fun y => allV fun v => (putS (ρ.set b (some (.lst .own (ds.set j (.hole v))))) t y).bind fun ρ1 => (body ρ1).bind (giveF t b [(j : Int)] v)
/-- a loop over the own list in slot b that may change its items (the list keeps its length) -/
noncomputable def loopOL (body : Env → Option Flow) (t b n : Nat) : Nat → Nat → Env → Option Flow
  | 0, _, ρ => if lenO ρ b = some n then some (.nx ρ) else none
  | k + 1, j, ρ => if lenO ρ b = some n then (stepO body t b j ρ).bind fun fl => match fl with
    | .nx ρ2 => loopOL body t b n k (j + 1) ρ2
    | .ct ρ2 => loopOL body t b n k (j + 1) ρ2
    | .bk ρ2 => some (.nx ρ2)
    | .rt d ρ2 => some (.rt d ρ2)
    | .ex x ρ2 => some (.ex x ρ2) else none
def forL (bind : D → Env → Option Env) (body : Env → Option Flow) : List D → Env → Option Flow
  | [], ρ => some (.nx ρ)
  | d :: ds, ρ => (bind d ρ).bind fun ρ1 => (body ρ1).bind fun fl => match fl with
    | .nx ρ2 => forL bind body ds ρ2
    | .ct ρ2 => forL bind body ds ρ2
    | .bk ρ2 => some (.nx ρ2)
    | .rt d ρ2 => some (.rt d ρ2)
    | .ex x ρ2 => some (.ex x ρ2)
def compL (bind : D → Env → Option Env) (cond : Env → Option (Bool × Env)) (elt : Env → Option (D × Env)) (vs : List Nat) : List D → Env → List D → Option (List D × Env)
  | [], ρ, acc => some (acc, ρ)
  | d :: ds, ρ, acc => (bind d ρ).bind fun ρ1 => (cond ρ1).bind fun p => match p with
    | (true, ρ2) => (elt ρ2).bind fun q => if acc.length < SZ then compL bind cond elt vs ds (wipeD q.2 vs) (acc ++ [q.1]) else none
    | (false, ρ2) => compL bind cond elt vs ds (wipeD ρ2 vs) acc
def comp2L (t1 t2 : Tg) (i2 : Env → Option (List D × Env)) (ct : Env → Option (Bool × Env)) (ee : Env → Option (D × Env)) : List D → Env → List D → Option (List D × Env)
  | [], ρ, acc => some (acc, ρ)
  | d :: ds, ρ, acc => (bindT t1 d ρ).bind fun ρ1 => (i2 ρ1).bind fun q => (compL (bindT t2) ct ee t2.slots q.1 (wipeD q.2 t2.slots) acc).bind fun r => comp2L t1 t2 i2 ct ee ds (wipeD r.2 (t1.slots ++ t2.slots)) r.1
def whlN (c : Env → Option (Bool × Env)) (b : Env → Option Flow) : Nat → Env → Option Flow
  | 0, _ => none
  | n + 1, ρ => (c ρ).bind fun p => match p with
    | (false, ρ1) => some (.nx ρ1)
    | (true, ρ1) => (b ρ1).bind fun fl => match fl with
      | .nx ρ2 => whlN c b n ρ2
      | .ct ρ2 => whlN c b n ρ2
      | .bk ρ2 => some (.nx ρ2)
      | .rt d ρ2 => some (.rt d ρ2)
      | .ex x ρ2 => some (.ex x ρ2)
open Classical in
noncomputable def whlD (c : Env → Option (Bool × Env)) (b : Env → Option Flow) (ρ : Env) : Option Flow :=
  if h : ∃ n, (whlN c b n ρ).isSome = true then whlN c b h.choose ρ else none
theorem whlN_mono {c : Env → Option (Bool × Env)} {b : Env → Option Flow} : ∀ {n m : Nat} {ρ : Env} {r : Flow}, n ≤ m → whlN c b n ρ = some r → whlN c b m ρ = some r
  | 0, _, _, _, _, h => by simp [whlN] at h
  | n + 1, 0, _, _, hm, _ => by omega
  | n + 1, m + 1, ρ, r, hm, h => by
    unfold whlN at h ⊢
    cases e : c ρ with
    | none => rw [e] at h; simp at h
    | some p =>
      rw [e] at h
      simp only [Option.bind_some] at h ⊢
      obtain ⟨k, ρ1⟩ := p
      cases k with
      | false => exact h
      | true =>
        simp only at h ⊢
        cases e2 : b ρ1 with
        | none => rw [e2] at h; simp at h
        | some fl =>
          rw [e2] at h
          simp only [Option.bind_some] at h ⊢
          cases fl with
          | nx ρ2 => exact whlN_mono (by omega) h
          | ct ρ2 => exact whlN_mono (by omega) h
          | bk ρ2 => exact h
          | rt d ρ2 => exact h
          | ex x ρ2 => exact h
theorem whlD_of {c : Env → Option (Bool × Env)} {b : Env → Option Flow} {n : Nat} {ρ : Env} {r : Flow} (h : whlN c b n ρ = some r) : whlD c b ρ = some r := by
  have he : ∃ n, (whlN c b n ρ).isSome = true := ⟨n, by rw [h]; rfl⟩
  unfold whlD
  rw [dif_pos he]
  obtain ⟨q, hq⟩ := Option.isSome_iff_exists.mp he.choose_spec
  rw [hq]
  have h1 := whlN_mono (Nat.le_max_left n he.choose) h
  have h2 := whlN_mono (Nat.le_max_right n he.choose) hq
  rw [h1] at h2
  exact h2.symm
theorem whlD_some {c : Env → Option (Bool × Env)} {b : Env → Option Flow} {ρ : Env} {r : Flow} (h : whlD c b ρ = some r) : ∃ n, whlN c b n ρ = some r := by
  unfold whlD at h
  split at h
  · exact ⟨_, h⟩
  · cases h

/-! ### the evaluator -/
abbrev Fs := Nat → List D → Option (D × List (Option D))
abbrev Fx := Nat → List D → Option (Exn × List (Option D))
def takeA : As → List (Option D) → Env → Option (List D × Env)
  | .nil, [], ρ => some ([], ρ)
  | .cons (.val _) as, some d :: ds, ρ => (takeA as ds ρ).map fun p => (d :: p.1, p.2)
  | .cons (.ref i) as, none :: ds, ρ => (getS ρ i).bind fun d => (takeA as ds (ρ.set i none)).map fun p => (d :: p.1, p.2)
  | _, _, _ => none
def putA : As → List (Option D) → Env → Option Env
  | .nil, [], ρ => some ρ
  | .cons (.val _) as, _ :: os, ρ => putA as os ρ
  | .cons (.ref i) as, some d :: os, ρ => putA as os (ρ.set i (some d))
  | _, _, _ => none
def recvD : A → Option D → Env → Option D
  | .val _, x, _ => x
  | .ref i, _, ρ => getS ρ i
/-- the method m of an object -/
def methD (ms : List ((Str × Str) × Nat)) (m : Str) : D → Option Nat
  | .obj _ c ns _ => if ns.contains m = true then none else (ms.find? fun q => decide (q.1 = (c, m))).map fun q => q.2
  | _ => none
/-- what the evaluator knows: the defs, the classes' fields, the classes' methods -/
structure Ctx where
  fs : Fs
  fx : Fx
  cs : List (Str × List Str)
  ms : List ((Str × Str) × Nat)
  xt : List (Str × List Str)
/-- what may stand on the right of an own == -/
def eqR : D → D → Bool
  | .obj _ c _ _, .obj _ c' _ _ => decide (c = c')
  | _, .obj _ _ _ _ => false
  | _, .hole _ => false
  | _, .any => false
  | _, _ => true
def blO : D → Option Bool
  | .bl b => some b
  | _ => none
/-- an answer of a call that changes nothing -/
def bareO {α : Type} : α × List (Option D) → Option α
  | (d, [none, none]) => some d
  | _ => none
def evCst : Cst → D
  | .non => .non
  | .bl b => .bl b
  | .int i => .int i
  | .str x => .str x
section
variable (Γ : Ctx)
mutual
noncomputable def evE : E → Env → Option (D × Env)
  | .cst c, ρ => some (evCst c, ρ)
  | .var i, ρ => (getS ρ i).map fun d => (share d, ρ.set i (some (share d)))
  | .mov i, ρ => (getS ρ i).map fun d => (d, ρ.set i none)
  | .bin op a b, ρ => (evE a ρ).bind fun p => (evE b p.2).bind fun q => (binD op p.1 q.1).map fun d => (d, q.2)
  | .neg a, ρ => (evE a ρ).bind fun p => match p.1 with
    | .int i => some (.int (-i), p.2)
    | _ => none
  | .not a, ρ => (evE a ρ).bind fun p => match p.1 with
    | .bl b => some (.bl (!b), p.2)
    | _ => none
  | .and es, ρ => (evAnd es ρ).map fun p => (.bl p.1, p.2)
  | .or es, ρ => (evOr es ρ).map fun p => (.bl p.1, p.2)
  | .cmp op a b, ρ => (evE a ρ).bind fun p => (evE b p.2).bind fun q => (cmpD op p.1 q.1).map fun d => (.bl d, q.2)
  | .chn op op' a b c, ρ => (evE a ρ).bind fun p => (evE b p.2).bind fun q => (cmpD op p.1 (share q.1)).bind fun d => if d = true then (evE c q.2).bind fun r => (cmpD op' (share q.1) r.1).map fun d' => (.bl d', r.2) else some (.bl false, q.2)
  | .ite c a b, ρ => (evE c ρ).bind fun p => match p.1 with
    | .bl true => evE a p.2
    | .bl false => evE b p.2
    | _ => none
  | .lst es, ρ => (evEs es ρ).bind fun p => if p.1.length ≤ SZ then some (.lst .own p.1, p.2) else none
  | .tup es, ρ => (evEs es ρ).bind fun p => if p.1.length ≤ SZ then some (.tup p.1, p.2) else none
  | .idx a b, ρ => (evE a ρ).bind fun p => (evE b p.2).bind fun q => (idxD p.1 q.1).map fun d => (d, q.2)
  | .idv i b, ρ => (getS ρ i).bind fun _ => (evE b ρ).bind fun p => (getS p.2 i).bind fun x => (idvD x p.1).map fun r => (r.1, p.2.set i (some r.2))
  | .slc a lo hi, ρ => (evE a ρ).bind fun p => (evO lo p.2).bind fun l => (evO hi l.2).bind fun h => (slcD p.1 l.1 h.1).map fun d => (d, h.2)
  | .call f as, ρ => (evAs as ρ).bind fun p => (takeA as p.1 p.2).bind fun q => (Γ.fs f q.1).bind fun r => (putA as r.2 q.2).map fun ρ' => (r.1, ρ')
  | .meth m o as, ρ => (evA o ρ).bind fun x => (recvD o x.1 x.2).bind fun s => (methD Γ.ms m s).bind fun f => (evAs as x.2).bind fun p => (takeA (.cons o as) (x.1 :: p.1) p.2).bind fun q => (Γ.fs f q.1).bind fun r => (putA (.cons o as) r.2 q.2).map fun ρ' => (r.1, ρ')
  | .make c f as, ρ => (evAs as ρ).bind fun p => (takeA as p.1 p.2).bind fun q => (Γ.fs f (.obj .own c [] [] :: q.1)).bind fun r => match r with
    | (.non, some d :: os) => (putA as os q.2).map fun ρ' => (d, ρ')
    | _ => none
  | .blt b es, ρ => (evEs es ρ).bind fun p => (bltD b p.1).map fun d => (d, p.2)
  | .isi a t, ρ => (evE a ρ).bind fun p => (isiD p.1 t).map fun b => (.bl b, p.2)
  | .fld a f, ρ => (evE a ρ).bind fun p => if hasFld Γ.cs f p.1 = true then (fldD p.1 f).map fun d => (d, p.2) else none
  | .flv i f, ρ => (getS ρ i).bind fun x => if hasFld Γ.cs f x = true then (flvD x f).map fun r => (r.1, ρ.set i (some r.2)) else none
  | .comp elt t it cond, ρ => (evIt it ρ).bind fun p => (compL (bindT t) (evC cond) (evE elt) t.slots p.1 (wipeD p.2 t.slots) []).map fun q => (.lst .own q.1, q.2)
  | .shr a, ρ => (evE a ρ).map fun p => (share p.1, p.2)
  | .lnv i, ρ => (getS ρ i).bind fun d => (lenD d).map fun n => (n, ρ)
  | .dic0, ρ => some (.dic, ρ)
  | .gti o b, ρ => (evE o ρ).bind fun p => (evE b p.2).bind fun q => (methD Γ.ms (Str.ofString "__getitem__") p.1).bind fun f => (Γ.fs f [p.1, q.1]).bind fun r => (bareO r).map fun d => (d, q.2)
  | .oeq o b, ρ => (evE o ρ).bind fun p => (evE b p.2).bind fun q => if eqR p.1 q.1 = true then (methD Γ.ms (Str.ofString "__eq__") p.1).bind fun f => (Γ.fs f [p.1, q.1]).bind fun r => (bareO r).bind fun d => (blO d).map fun k => (.bl k, q.2) else none
  | .lrg a, ρ => (evE a ρ).bind fun p => match p.1 with
    | .int n => @ite _ (-(2 ^ 62) ≤ n ∧ n ≤ 16777216) (Classical.propDecidable _) (some (.lst .own (rngL 0 n.toNat), p.2)) none
    | _ => none
  | .plc p, ρ => (getP ρ p).bind fun y => (putP ρ p (share y)).map fun z => (share y, ρ.set p.base (some z))
  | .bor a, ρ => (evE a (viewD ρ)).bind fun p => if closedD p.1 = true then some (p.1, ρ) else none
  | .comp2 elt t1 it1 t2 it2 cond, ρ => (evIt it1 ρ).bind fun p => (comp2L t1 t2 (evIt it2) (evC cond) (evE elt) p.1 (wipeD p.2 (t1.slots ++ t2.slots)) []).map fun q => (.lst .own q.1, q.2)
noncomputable def evC : OE → Env → Option (Bool × Env)
  | .no, ρ => some (true, ρ)
  | .yes e, ρ => (evE e ρ).bind fun p => match p.1 with
    | .bl b => some (b, p.2)
    | _ => none
noncomputable def evO : OE → Env → Option (Option Int × Env)
  | .no, ρ => some (none, ρ)
  | .yes e, ρ => (evE e ρ).bind fun p => match p.1 with
    | .int i => some (some i, p.2)
    | _ => none
noncomputable def evAnd : Es → Env → Option (Bool × Env)
  | .cons e .nil, ρ => (evE e ρ).bind fun p => match p.1 with
    | .bl b => some (b, p.2)
    | _ => none
  | .cons e es, ρ => (evE e ρ).bind fun p => match p.1 with
    | .bl true => evAnd es p.2
    | .bl false => some (false, p.2)
    | _ => none
  | _, _ => none
noncomputable def evOr : Es → Env → Option (Bool × Env)
  | .cons e .nil, ρ => (evE e ρ).bind fun p => match p.1 with
    | .bl b => some (b, p.2)
    | _ => none
  | .cons e es, ρ => (evE e ρ).bind fun p => match p.1 with
    | .bl false => evOr es p.2
    | .bl true => some (true, p.2)
    | _ => none
  | _, _ => none
noncomputable def evEs : Es → Env → Option (List D × Env)
  | .nil, ρ => some ([], ρ)
  | .cons e es, ρ => (evE e ρ).bind fun p => (evEs es p.2).map fun q => (p.1 :: q.1, q.2)
  | .star e es, ρ => (evE e ρ).bind fun p => match p.1 with
    | .tup xs => (evEs es p.2).map fun q => (shares xs ++ q.1, q.2)
    | .lst _ xs => (evEs es p.2).map fun q => (shares xs ++ q.1, q.2)
    | _ => none
noncomputable def evA : A → Env → Option (Option D × Env)
  | .val e, ρ => (evE e ρ).map fun p => (some p.1, p.2)
  | .ref i, ρ => (getS ρ i).map fun _ => (none, ρ)
noncomputable def evAs : As → Env → Option (List (Option D) × Env)
  | .nil, ρ => some ([], ρ)
  | .cons a as, ρ => (evA a ρ).bind fun p => (evAs as p.2).map fun q => (p.1 :: q.1, q.2)
noncomputable def evIt : It → Env → Option (List D × Env)
  | .seq e, ρ => (evE e ρ).bind fun p => match p.1 with
    | .lst _ xs => some (shares xs, p.2)
    | .tup xs => some (shares xs, p.2)
    | _ => none
  | .rng e, ρ => (evE e ρ).bind fun p => match p.1 with
    | .int n => @ite _ (-(2 ^ 62) ≤ n ∧ n < 2 ^ 62) (Classical.propDecidable _) (some (rngL 0 n.toNat, p.2)) none
    | _ => none
  | .rng2 a b, ρ => (evE a ρ).bind fun p => (evE b p.2).bind fun q => match p.1, q.1 with
    | .int i, .int j => @ite _ (-(2 ^ 62) ≤ i ∧ i < 2 ^ 62 ∧ -(2 ^ 62) ≤ j ∧ j < 2 ^ 62) (Classical.propDecidable _) (some (rngL i (j - i).toNat, q.2)) none
    | _, _ => none
  | .zip a b, ρ => (evE a ρ).bind fun p => (evE b p.2).bind fun q => match p.1, q.1 with
    | .lst _ xs, .lst _ ys => some (zipL (shares xs) (shares ys), q.2)
    | _, _ => none
  | .enum e, ρ => (evE e ρ).bind fun p => match p.1 with
    | .lst _ xs => some (enumL 0 (shares xs), p.2)
    | _ => none
end
mutual
/-- how an expression raises -/
noncomputable def evX : E → Env → Option (Exn × Env)
  | .call f as, ρ => (evAs Γ as ρ).bind fun p => (takeA as p.1 p.2).bind fun q => (Γ.fx f q.1).bind fun r => (putA as r.2 q.2).map fun ρ' => (r.1, ρ')
  | .meth m o as, ρ => (evA Γ o ρ).bind fun x => (recvD o x.1 x.2).bind fun s => (methD Γ.ms m s).bind fun f => (evAs Γ as x.2).bind fun p => (takeA (.cons o as) (x.1 :: p.1) p.2).bind fun q => (Γ.fx f q.1).bind fun r => (putA (.cons o as) r.2 q.2).map fun ρ' => (r.1, ρ')
  | .make c f as, ρ => (evAs Γ as ρ).bind fun p => (takeA as p.1 p.2).bind fun q => (Γ.fx f (.obj .own c [] [] :: q.1)).bind fun r => match r with
    | (x, _ :: os) => (putA as os q.2).map fun ρ' => (x, ρ')
    | _ => none
  | .shr a, ρ => evX a ρ
  | .tup es, ρ => evXs es ρ
  | .cmp _ a _, ρ => evX a ρ
  | .blt _ es, ρ => evXs es ρ
  | .gti o b, ρ => (evE Γ o ρ).bind fun p => (evE Γ b p.2).bind fun q => (methD Γ.ms (Str.ofString "__getitem__") p.1).bind fun f => (Γ.fx f [p.1, q.1]).bind fun r => (bareO r).map fun x => (x, q.2)
  | _, _ => none
noncomputable def evXs : Es → Env → Option (Exn × Env)
  | .cons e es, ρ => match evE Γ e ρ with
    | some p => evXs es p.2
    | none => evX e ρ
  | _, _ => none
end
/-- is an exception of the class c one of the class c'? -/
def isX (xt : List (Str × List Str)) (c c' : Str) : Option Bool := (xt.lookup c).map fun l => l.contains c'
def intO : D → Option Bool
  | .int _ => some true
  | .bl _ => some false
  | .str _ => some false
  | .non => some false
  | _ => none
mutual
def evSE (x : Exn) : SE → Option D
  | .cst c => some (evCst c)
  | .fld f => x.a.bind fun p => if p.1 = f then some (share p.2) else none
  | .isx c => (isX Γ.xt x.c c).map .bl
  | .tup es => (evSEs x es).bind fun ds => if ds.length ≤ SZ then some (.tup ds) else none
  | .and a b => (evSE x a).bind fun d => match d with
    | .bl true => (evSE x b).bind fun d' => match d' with
      | .bl k => some (.bl k)
      | _ => none
    | .bl false => some (.bl false)
    | _ => none
  | .isint _ a => (evSE x a).bind fun d => (intO d).map .bl
def evSEs (x : Exn) : SEs → Option (List D)
  | .nil => some []
  | .cons e es => (evSE x e).bind fun d => (evSEs x es).map fun ds => d :: ds
end
def slOut (ρ : Env) : Option Nat → Env
  | none => ρ
  | some i => ρ.set i none
def exSS (x : Exn) (ρ : Env) : SS → Option Flow
  | .set i e => (evSE Γ x e).bind fun d => (putS ρ i d).map .nx
  | .ret e => (evSE Γ x e).map fun d => .rt d ρ
def exHd (x : Exn) (ρ : Env) : List Hd → Option Flow
  | [] => some (.ex x ρ)
  | h :: hs => (isX Γ.xt x.c h.c).bind fun b => if b = true then exSS Γ x (slOut ρ h.sl) h.s else exHd x ρ hs
def altF (a b : Option Flow) : Option Flow := match a with
  | some fl => some fl
  | none => b
def orX (a : Option Flow) (b : Option (Exn × Env)) : Option Flow := match a with
  | some fl => some fl
  | none => b.map fun p => .ex p.1 p.2
noncomputable def mayN (e : E) (ρ : Env) : May → Option Flow
  | .set t => (evE Γ e ρ).bind fun p => (bindT t p.1 p.2).map .nx
  | .ex => (evE Γ e ρ).map fun p => .nx p.2
  | .ret => (evE Γ e ρ).map fun p => .rt p.1 p.2
def g2 (eb ec : Env → Option (D × Env)) (i j : Nat) (d : D) (ρ : Env) : Option Env := match d with
  | .tup [d1, d2] => ((getS ρ i).bind fun _ => (eb ρ).bind fun q => (getS q.2 i).bind fun x => (setID x q.1 d1).map fun z => q.2.set i (some z)).bind fun ρ1 =>
      (getS ρ1 j).bind fun _ => (ec ρ1).bind fun q => (getS q.2 j).bind fun x => (setID x q.1 d2).map fun z => q.2.set j (some z)
  | _ => none
mutual
noncomputable def exS : S → Env → Option Flow
  | .set t e, ρ => (evE Γ e ρ).bind fun p => (bindT t p.1 p.2).map .nx
  | .setI i b e, ρ => (evE Γ e ρ).bind fun p => (getS p.2 i).bind fun _ => (evE Γ b p.2).bind fun q => (getS q.2 i).bind fun x => (setID x q.1 p.1).map fun z => .nx (q.2.set i (some z))
  | .setF i f e, ρ => (evE Γ e ρ).bind fun p => (getS p.2 i).bind fun x => if hasFld Γ.cs f x = true then (setFD x f p.1).map fun z => .nx (p.2.set i (some z)) else none
  | .aug i op e, ρ => (getS ρ i).bind fun x => (evE Γ e ρ).bind fun p => (augD op x p.1).bind fun z => (putS p.2 i z).map .nx
  | .app i e, ρ => (getS ρ i).bind fun x0 => if isLst x0 = true then (evE Γ e ρ).bind fun p => (getS p.2 i).bind fun x => (appD x p.1).map fun z => .nx (p.2.set i (some z)) else none
  | .ex e, ρ => (evE Γ e ρ).map fun p => .nx p.2
  | .ite c a b, ρ => (evE Γ c ρ).bind fun p => match p.1 with
    | .bl true => exSs a p.2
    | .bl false => exSs b p.2
    | _ => none
  | .loop t it b, ρ => (evIt Γ it ρ).bind fun p => forL (bindT t) (exSs b) p.1 p.2
  | .whl c b, ρ => whlD (evC Γ (.yes c)) (exSs b) ρ
  | .ret e, ρ => (evE Γ e ρ).map fun p => .rt p.1 p.2
  | .retN, ρ => some (.rt .non ρ)
  | .brk, ρ => some (.bk ρ)
  | .cnt, ρ => some (.ct ρ)
  | .pass, ρ => some (.nx ρ)
  | .nev, _ => none
  | .setP p ix e, ρ => (evE Γ e ρ).bind fun q => (getP q.2 p).bind fun x => (ixD q.2 ix).bind fun n => (setID x (.int n) q.1).bind fun x' => (putP q.2 p x').map fun z => .nx (q.2.set p.base (some z))
  | .mutP p op es, ρ => (getP ρ p).bind fun x => (lstO x).bind fun ds => (evEs Γ es (ρ.set p.base none)).bind fun q => (mopD op ds q.1).bind fun ds' => (putP ρ p (.lst .own ds')).map fun z => .nx (q.2.set p.base (some z))
  | .par is es, ρ => (evEs Γ es ρ).bind fun p => (putAll p.2 is p.1).map .nx
  | .bor is s, ρ => (exS s (viewD ρ)).bind fun fl => match fl with
    | .nx _ => some (.nx (wipeD ρ is))
    | .rt d _ => if closedD d = true then some (.rt d (wipeD ρ is)) else none
    | _ => none
  | .may k e, ρ => orX (mayN Γ e ρ k) (evX Γ e ρ)
  | .rse0 c, ρ => some (.ex ⟨c, none⟩ ρ)
  | .rse1 c f e, ρ => (evE Γ e ρ).map fun p => .ex ⟨c, some (f, p.1)⟩ p.2
  | .try_ b hs, ρ => (exSs b ρ).bind fun fl => match fl with
    | .ex x ρ1 => exHd Γ x ρ1 hs
    | fl => some fl
  | .setS i a b e, ρ => (evE Γ e ρ).bind fun p => (getS p.2 i).bind fun _ => (evE Γ a p.2).bind fun q => (evE Γ b q.2).bind fun r => (getS r.2 i).bind fun x => (slcS x q.1 r.1 p.1).map fun z => .nx (r.2.set i (some z))
  | .swp i j a b e, ρ => (evE Γ e ρ).bind fun p => (g2 (evE Γ a) (evE Γ b) i j p.1 p.2).map .nx
  | .mutN i op es, ρ => (getS ρ i).bind fun x0 => if isLst x0 = true then (evEs Γ es ρ).bind fun q => (getS q.2 i).bind fun x => (lstO x).bind fun ds => (mopD op ds q.1).map fun ds' => .nx (q.2.set i (some (.lst .own ds'))) else none
  | .loopO t b body, ρ => (lenO ρ b).bind fun n => loopOL (exSs body) t b n n 0 ρ
noncomputable def exSs : Ss → Env → Option Flow
  | .nil, ρ => some (.nx ρ)
  | .alt a b, ρ => altF (exSs a ρ) (exSs b ρ)
  | .ali i p body rest, ρ => (getP ρ p).bind fun y => (ixsD ρ p).bind fun ns => (allV fun v => ((putP ρ p (.hole v)).bind fun z => putS (ρ.set p.base (some z)) i y).bind fun ρ1 => (exSs body ρ1).bind (giveF i p.base ns v)).bind fun fl => match fl with
    | .nx ρ1 => exSs rest ρ1
    | fl => some fl
  | .cons s ss, ρ => (exS s ρ).bind fun fl => match fl with
    | .nx ρ1 => exSs ss ρ1
    | fl => some fl
end
end
/-! ### defs -/
structure Fn where
  at_ : Str × Option Str
  ps : List Str
  N : List Str
  io : List Nat
  body : Ss
def outsFrom (io : List Nat) (ρ : Env) : Nat → Nat → List (Option D)
  | _, 0 => []
  | i, n + 1 => (if i ∈ io then getS ρ i else none) :: outsFrom io ρ (i + 1) n
noncomputable def runFn (Γ : Ctx) (fn : Fn) (ds : List D) : Option (D × List (Option D)) :=
  if ds.length = fn.ps.length then
    (exSs Γ fn.body (ds.map some ++ List.replicate (fn.N.length - ds.length) none)).bind fun fl => match fl with
      | .nx ρ => some (.non, outsFrom fn.io ρ 0 fn.ps.length)
      | .rt d ρ => some (d, outsFrom fn.io ρ 0 fn.ps.length)
      | _ => none
  else none
noncomputable def runFnX (Γ : Ctx) (fn : Fn) (ds : List D) : Option (Exn × List (Option D)) :=
  if ds.length = fn.ps.length then
    (exSs Γ fn.body (ds.map some ++ List.replicate (fn.N.length - ds.length) none)).bind fun fl => match fl with
      | .ex x ρ => some (x, outsFrom fn.io ρ 0 fn.ps.length)
      | _ => none
  else none
/-- the program: its defs, its classes' fields and methods; its exception classes: what they are, their field -/
structure Tab where
  fns : List Fn
  cs : List (Str × List Str)
  ms : List ((Str × Str) × Nat)
  xt : List (Str × List Str)
  xi : List (Str × Str)
  isn : List Nat
  oc : List Str
noncomputable def runs (T : Tab) : Nat → Fs × Fx
  | 0 => (fun _ _ => none, fun _ _ => none)
  | k + 1 => (fun f ds => (T.fns[f]?).bind fun fn => runFn ⟨(runs T k).1, (runs T k).2, T.cs, T.ms, T.xt⟩ fn ds, fun f ds => (T.fns[f]?).bind fun fn => runFnX ⟨(runs T k).1, (runs T k).2, T.cs, T.ms, T.xt⟩ fn ds)
noncomputable def run (T : Tab) (k : Nat) : Fs := (runs T k).1
noncomputable def runX (T : Tab) (k : Nat) : Fx := (runs T k).2
end FL

/-! F3: what can be done with roots. -/
namespace FL
open PySem PySem.Spec PyProof.Rows L2
abbrev tmp (v : V) (d : D) : Root := (some v, some d)
def tmps : List V → List D → List Root
  | v :: vs, d :: ds => tmp v d :: tmps vs ds
  | _, _ => []
section
variable {K : PySem.W.Frag} {G H G' H' Gf : Hp} {N : List Addr} {rs rs' ts : List Root} {v : V} {d : D}

theorem RepO.tail {r : Root} {F : List Addr} (h : RepO K G H (r :: rs) F) : ∃ F1 F2, F = F1 ++ F2 ∧ RepO K G H rs F2 := by
  cases h with
  | skip h => exact ⟨[], F, rfl, h⟩
  | cons _ h => exact ⟨_, _, rfl, h⟩
theorem SR.drop {r : Root} (h : SR K Gf N H (r :: rs)) : SR K Gf N H rs := by
  obtain ⟨n, F, nd, r, g⟩ := h
  obtain ⟨F1, F2, rfl, r2⟩ := r.tail
  obtain ⟨_, nd2, _⟩ := List.nodup_append.mp nd
  refine ⟨n, F2, nd2, r2.mono (hid_mono fun a ha => ?_) fun _ _ => rfl, g.trans (hid_mono fun a ha => List.mem_append_right _ ha)⟩
  rcases List.mem_append.mp ha with ha | ha
  · exact List.mem_append_left _ (List.mem_append_right _ ha)
  · exact List.mem_append_right _ ha
theorem SR.dropL : ∀ {rs' : List Root}, SR K Gf N H (rs' ++ rs) → SR K Gf N H rs
  | [], h => h
  | _ :: rs', h => SR.dropL (rs' := rs') h.drop
theorem SR.skip {o : Option V} (h : SR K Gf N H rs) : SR K Gf N H ((o, none) :: rs) := by
  obtain ⟨n, F, nd, r, g⟩ := h
  exact ⟨n, F, nd, .skip r, g⟩
theorem SR.unskip {o : Option V} (h : SR K Gf N H ((o, none) :: rs)) : SR K Gf N H rs := h.drop
/-- the head is shared -/
theorem SR.share1 (h : SR K Gf N H (tmp v d :: rs)) : SR K Gf N H (tmp v (share d) :: rs) := by
  obtain ⟨n, F, nd, r, g⟩ := h
  cases r with
  | cons x r =>
    rename_i F1 F2
    obtain ⟨_, nd2, dj⟩ := List.nodup_append.mp nd
    have hN : ∀ a ∈ N, a ∉ F1 ++ F2 := fun a ha => by
      obtain ⟨o, e⟩ := n a ha
      exact (hid_some.mp (g a o e)).1
    have le : Le (hid (F1 ++ F2 ++ N) H) (hid (F2 ++ N) H) := hid_mono fun a ha => by
      rcases List.mem_append.mp ha with ha | ha
      · exact List.mem_append_left _ (List.mem_append_right _ ha)
      · exact List.mem_append_right _ ha
    refine ⟨n, F2, nd2, RepO.cons (F1 := []) (x.share le fun a ha => ?_) (r.mono le fun _ _ => rfl), g.trans (hid_mono fun a ha => List.mem_append_right _ ha)⟩
    refine hid_out fun z => ?_
    rcases List.mem_append.mp z with z | z
    · exact dj a ha a z rfl
    · exact hN a z (List.mem_append_left _ ha)
/-- facts of the head -/
theorem SR.head (h : SR K Gf N H (tmp v d :: rs)) : ∃ G F, Le G H ∧ Rep K G H v d F := by
  obtain ⟨n, F, nd, r, g⟩ := h
  cases r with
  | cons x r => exact ⟨_, _, hid_le, x⟩
/-- from a shared head comes a further root that leans on it -/
theorem SR.more {v' : V} {d' : D} (h : SR K Gf N H (tmp v d :: rs)) (hs : share d = d) (f : ∀ G, Le G H → Rep K G H v d [] → Rep K G H v' d' []) : SR K Gf N H (tmp v' d' :: tmp v d :: rs) := by
  obtain ⟨n, F, nd, r, g⟩ := h
  cases r with
  | cons x r =>
    rename_i F1 F2
    have e := x.sharedF hs
    subst e
    exact ⟨n, [] ++ F2, nd, RepO.cons (F1 := []) (f _ hid_le x) (RepO.cons (F1 := []) x r), g⟩
theorem SR.dup (h : SR K Gf N H (tmp v d :: rs)) (hs : share d = d) : SR K Gf N H (tmp v d :: tmp v d :: rs) := h.more hs fun _ _ x => x
/-- a value without objects -/
inductive Flat : V → D → Prop
  | non : Flat .non .non
  | bl (b : Bool) : Flat (.bl b) (.bl b)
  | int (i : Int) : Flat (.int i) (.int i)
  | str (x : Str) : Flat (.str x) (.str x)
theorem Flat.rep (f : Flat v d) : Rep K G H v d [] := by cases f <;> constructor
theorem SR.flat (h : SR K Gf N H rs) (f : Flat v d) : SR K Gf N H (tmp v d :: rs) := by
  obtain ⟨n, F, nd, r, g⟩ := h
  exact ⟨n, [] ++ F, nd, RepO.cons (F1 := []) f.rep r, g⟩
theorem SR.swap2 {r r' : Root} (h : SR K Gf N H (r :: r' :: rs)) : SR K Gf N H (r' :: r :: rs) := h.perm (.swap _ _ _)
theorem SR.toFront {r : Root} (h : SR K Gf N H (rs' ++ r :: rs)) : SR K Gf N H (r :: (rs' ++ rs)) := h.perm List.perm_middle
theorem SR.fromFront {r : Root} (h : SR K Gf N H (r :: (rs' ++ rs))) : SR K Gf N H (rs' ++ r :: rs) := h.perm List.perm_middle.symm

/-! ### slots -/
theorem zip_get {σ : L2.St} {ρ : Env} {i : Nat} {o : Option V} {x : Option D} (h1 : σ[i]? = some o) (h2 : ρ[i]? = some x) : (σ.zip ρ)[i]? = some (o, x) := by
  rw [List.getElem?_zip_eq_some]; exact ⟨h1, h2⟩
theorem zip_set2 : ∀ (σ : L2.St) (ρ : Env) (i : Nat) (x : Option D) (o : Option V), σ[i]? = some o → σ.zip (ρ.set i x) = (σ.zip ρ).set i (o, x)
  | [], _, _, _, _, h => by simp at h
  | _ :: _, [], _, _, _, _ => by simp
  | _ :: σ, _ :: ρ, 0, x, o, h => by simp at h; subst h; simp
  | _ :: σ, _ :: ρ, i + 1, x, o, h => by
    simp only [List.set_cons_succ, List.zip_cons_cons]
    rw [zip_set2 σ ρ i x o (by simpa using h)]
theorem perm_set {α : Type} : ∀ {l : List α} {i : Nat} {a b : α}, l[i]? = some a → ∃ m, l.Perm (a :: m) ∧ (l.set i b).Perm (b :: m)
  | [], _, _, _, h => by simp at h
  | x :: l, 0, a, b, h => by
    simp at h; subst h
    exact ⟨l, .refl _, by simp⟩
  | x :: l, i + 1, a, b, h => by
    obtain ⟨m, p, q⟩ := perm_set (l := l) (i := i) (b := b) (by simpa using h)
    refine ⟨x :: m, (p.cons x).trans (.swap _ _ _), ?_⟩
    simp only [List.set_cons_succ]
    exact (q.cons x).trans (.swap _ _ _)
theorem getS_some {ρ : Env} {i : Nat} (h : getS ρ i = some d) : ρ[i]? = some (some d) := by
  unfold getS at h
  split at h
  · cases h; assumption
  · cases h
theorem RepO.at_ : ∀ {rs : List Root} {F : List Addr} {i : Nat} {o : Option V}, RepO K G H rs F → rs[i]? = some (o, some d) → ∃ v, o = some v
  | _, _, i, o, .nil, h => by simp at h
  | _, _, 0, o, .skip r, h => by simp at h
  | _, _, i + 1, o, .skip r, h => RepO.at_ (i := i) r (by simpa using h)
  | _, _, 0, o, .cons x r, h => by simp at h; exact ⟨_, h.1.symm⟩
  | _, _, i + 1, o, .cons x r, h => RepO.at_ (i := i) r (by simpa using h)
theorem SR.slotV {σ : L2.St} {ρ : Env} {i : Nat} (h : SR K Gf N H (ts ++ σ.zip ρ)) (hl : σ.length = ρ.length) (e : getS ρ i = some d) : ∃ v, σ[i]? = some (some v) := by
  have e2 := getS_some e
  have hi : i < σ.length := by
    rw [hl]
    exact (List.getElem?_eq_some_iff.mp e2).1
  have e1 : σ[i]? = some σ[i] := List.getElem?_eq_getElem hi
  obtain ⟨_, F, _, r, _⟩ := h.dropL
  obtain ⟨v, q⟩ := r.at_ (zip_get e1 e2)
  exact ⟨v, by rw [e1, q]⟩
theorem SR.take {σ : L2.St} {ρ : Env} {i : Nat} (h : SR K Gf N H (ts ++ σ.zip ρ)) (e : getS ρ i = some d) (ev : σ[i]? = some (some v)) : SR K Gf N H (tmp v d :: (ts ++ σ.zip (ρ.set i none))) := by
  obtain ⟨m, p, q⟩ := perm_set (b := ((some v, none) : Root)) (zip_get ev (getS_some e))
  rw [zip_set2 _ _ _ _ _ ev]
  have h1 : SR K Gf N H (tmp v d :: (ts ++ m)) := h.perm ((p.append_left ts).trans List.perm_middle)
  have h2 : SR K Gf N H ((some v, none) :: tmp v d :: (ts ++ m)) := h1.skip
  refine h2.perm ((List.Perm.swap _ _ _).trans (.cons _ ?_))
  exact (List.perm_middle.symm).trans (q.symm.append_left ts)
theorem SR.put {σ : L2.St} {ρ : Env} {i : Nat} (h : SR K Gf N H (tmp v d :: (ts ++ σ.zip ρ))) (hi : i < ρ.length) (ev : σ[i]? = some (some v)) : SR K Gf N H (ts ++ σ.zip (ρ.set i (some d))) := by
  obtain ⟨m, p, q⟩ := perm_set (b := tmp v d) (zip_get ev (List.getElem?_eq_getElem hi))
  rw [zip_set2 _ _ _ _ _ ev]
  have h1 : SR K Gf N H ((some v, ρ[i]) :: (tmp v d :: (ts ++ m))) := h.perm ((List.Perm.cons _ ((p.append_left ts).trans List.perm_middle)).trans (.swap _ _ _))
  exact h1.drop.perm (List.perm_middle.symm.trans (q.symm.append_left ts))
theorem SR.forget {σ : L2.St} {ρ : Env} {i : Nat} (h : SR K Gf N H (ts ++ σ.zip ρ)) (hi : i < σ.length) : SR K Gf N H (ts ++ σ.zip (ρ.set i none)) := by
  have ev : σ[i]? = some σ[i] := List.getElem?_eq_getElem hi
  by_cases hr : i < ρ.length
  · obtain ⟨m, p, q⟩ := perm_set (b := ((σ[i], none) : Root)) (zip_get ev (List.getElem?_eq_getElem hr))
    rw [zip_set2 _ _ _ _ _ ev]
    have h1 : SR K Gf N H ((σ[i], ρ[i]) :: (ts ++ m)) := h.perm ((p.append_left ts).trans List.perm_middle)
    exact (h1.drop.skip (o := σ[i])).perm (List.perm_middle.symm.trans (q.symm.append_left ts))
  · rw [List.set_eq_of_length_le (by omega)]; exact h
/-- a slot's value is stored: σ changes too -/
theorem SR.store {σ : L2.St} {ρ : Env} {i : Nat} (h : SR K Gf N H (tmp v d :: (ts ++ σ.zip ρ))) (hl : σ.length = ρ.length) (hi : i < ρ.length) : SR K Gf N H (ts ++ (σ.set i (some v)).zip (ρ.set i (some d))) := by
  have hs : i < σ.length := by omega
  have ev : σ[i]? = some σ[i] := List.getElem?_eq_getElem hs
  obtain ⟨m, p, q⟩ := perm_set (b := tmp v d) (zip_get ev (List.getElem?_eq_getElem hi))
  have e : (σ.set i (some v)).zip (ρ.set i (some d)) = (σ.zip ρ).set i (tmp v d) := by
    have zz : ∀ (σ : L2.St) (ρ : Env) (i : Nat), (σ.set i (some v)).zip (ρ.set i (some d)) = (σ.zip ρ).set i (tmp v d) := by
      intro σ
      induction σ with
      | nil => intro ρ i; simp
      | cons a σ ih =>
        intro ρ i
        cases ρ with
        | nil => simp
        | cons b ρ =>
          cases i with
          | zero => simp
          | succ i => simp [ih ρ i]
    exact zz σ ρ i
  rw [e]
  have h1 : SR K Gf N H ((σ[i], ρ[i]) :: (tmp v d :: (ts ++ m))) := h.perm ((List.Perm.cons _ ((p.append_left ts).trans List.perm_middle)).trans (.swap _ _ _))
  exact h1.drop.perm (List.perm_middle.symm.trans (q.symm.append_left ts))

/-! ### new objects -/
theorem tmps_reps : ∀ {vs : List V} {ds : List D} {F : List Addr}, vs.length = ds.length → RepO K G H (tmps vs ds) F → Reps K G H vs ds F
  | [], [], _, _, .nil => .nil
  | v :: vs, d :: ds, _, hl, .cons x r => .cons x (tmps_reps (by simpa using hl) r)
  | [], _ :: _, _, hl, _ => by simp at hl
  | _ :: _, [], _, hl, _ => by simp at hl
theorem reps_tmps : ∀ {vs : List V} {ds : List D} {F : List Addr}, Reps K G H vs ds F → RepO K G H (tmps vs ds) F
  | _, _, _, .nil => .nil
  | _, _, _, .cons x r => .cons x (reps_tmps r)
theorem notN {p : Addr} (n : ∀ a ∈ N, ∃ o, Gf a = some o) {F : List Addr} (g : Le Gf (hid F H)) (hp : H p = none) : p ∉ N := fun z => by
  obtain ⟨o, e⟩ := n p z
  have := (hid_some.mp (g p o e)).2
  rw [hp] at this; cases this
theorem le_upd {F : List Addr} {p : Addr} {o : HO} (hp : H p = none) : Le (hid F H) (hid F (upd H p o)) := fun a u e => by
  obtain ⟨x, y⟩ := hid_some.mp e
  exact hid_some.mpr ⟨x, by rw [upd_ne (ne_of_none y hp)]; exact y⟩
theorem SR.newL {vs : List V} {ds : List D} {p : Addr} (h : SR K Gf N H (tmps vs ds ++ rs)) (hl : vs.length = ds.length) (hp : H p = none) : SR K Gf N (upd H p (.lst vs)) (tmp (.ref p) (.lst .own ds) :: rs) := by
  obtain ⟨n, F, nd, r, g⟩ := h
  obtain ⟨F1, F2, rfl, r1, r2⟩ := r.split
  have hF : p ∉ F1 ++ F2 := fun z => by
    obtain ⟨o, e⟩ := (r1.append r2).dom p z
    rw [hp] at e; cases e
  have hN := notN n g hp
  have le : Le (hid (F1 ++ F2 ++ N) H) (hid ((p :: F1) ++ F2 ++ N) (upd H p (.lst vs))) := fun a u e => by
    obtain ⟨x, y⟩ := hid_some.mp e
    have hne := ne_of_none y hp
    exact hid_some.mpr ⟨by simp only [List.cons_append, List.mem_cons, not_or]; exact ⟨hne, x⟩, by rw [upd_ne hne]; exact y⟩
  have keep : ∀ a ∈ F1 ++ F2, upd H p (.lst vs) a = H a := fun a ha => upd_ne fun z => hF (z ▸ ha)
  refine ⟨n, (p :: F1) ++ F2, List.nodup_cons.mpr ⟨hF, nd⟩, RepO.cons (.lstO upd_same ((tmps_reps hl r1).mono le fun a ha => keep a (List.mem_append_left _ ha))) (r2.mono le fun a ha => keep a (List.mem_append_right _ ha)), fun a u e => ?_⟩
  obtain ⟨x, y⟩ := hid_some.mp (g a u e)
  have hne := ne_of_none y hp
  exact hid_some.mpr ⟨by simp only [List.cons_append, List.mem_cons, not_or]; exact ⟨hne, x⟩, by rw [upd_ne hne]; exact y⟩
theorem SR.newT {vs : List V} {ds : List D} {p : Addr} (h : SR K Gf N H (tmps vs ds ++ rs)) (hl : vs.length = ds.length) (hp : H p = none) : SR K Gf N (upd H p (.tup vs)) (tmp (.ref p) (.tup ds) :: rs) := by
  obtain ⟨n, F, nd, r, g⟩ := h
  obtain ⟨F1, F2, rfl, r1, r2⟩ := r.split
  have hF : p ∉ F1 ++ F2 := fun z => by
    obtain ⟨o, e⟩ := (r1.append r2).dom p z
    rw [hp] at e; cases e
  have hN := notN n g hp
  have le : Le (hid (F1 ++ F2 ++ N) H) (hid (F1 ++ F2 ++ N) (upd H p (.tup vs))) := le_upd hp
  have keep : ∀ a ∈ F1 ++ F2, upd H p (.tup vs) a = H a := fun a ha => upd_ne fun z => hF (z ▸ ha)
  refine ⟨n, F1 ++ F2, nd, RepO.cons (.tup (.inl (.inl (hid_some.mpr ⟨fun z => ?_, upd_same⟩))) ((tmps_reps hl r1).mono le fun a ha => keep a (List.mem_append_left _ ha))) (r2.mono le fun a ha => keep a (List.mem_append_right _ ha)), g.trans (le_upd hp)⟩
  rcases List.mem_append.mp z with z | z
  · exact hF z
  · exact hN z
/-- any object that no root names -/
theorem SR.newX {p : Addr} {o : HO} (h : SR K Gf N H rs) (hp : H p = none) : SR K Gf N (upd H p o) rs := by
  obtain ⟨n, F, nd, r, g⟩ := h
  have hF : p ∉ F := fun z => by
    obtain ⟨u, e⟩ := r.dom p z
    rw [hp] at e; cases e
  exact ⟨n, F, nd, r.mono (le_upd hp) fun a ha => upd_ne fun z => hF (z ▸ ha), g.trans (le_upd hp)⟩
theorem SR.newO {p : Addr} {c : Str} {dx : Addr} (h : SR K Gf N H rs) (hp : H p = none) : SR K Gf N (upd H p (.ins (He.ga K c) dx [])) (tmp (.ref p) (.obj .own c [] []) :: rs) := by
  obtain ⟨n, F, nd, r, g⟩ := h
  have hF : p ∉ F := fun z => by
    obtain ⟨o, e⟩ := r.dom p z
    rw [hp] at e; cases e
  have le : Le (hid (F ++ N) H) (hid ((p :: []) ++ F ++ N) (upd H p (.ins (He.ga K c) dx []))) := fun a u e => by
    obtain ⟨x, y⟩ := hid_some.mp e
    have hne := ne_of_none y hp
    exact hid_some.mpr ⟨by simp only [List.cons_append, List.nil_append, List.mem_cons, not_or]; exact ⟨hne, x⟩, by rw [upd_ne hne]; exact y⟩
  refine ⟨n, (p :: []) ++ F, List.nodup_cons.mpr ⟨hF, nd⟩, RepO.cons (.objO (ns := []) (vs := []) upd_same rfl .nil) (r.mono le fun a ha => upd_ne fun z => hF (z ▸ ha)), fun a u e => ?_⟩
  obtain ⟨x, y⟩ := hid_some.mp (g a u e)
  have hne := ne_of_none y hp
  exact hid_some.mpr ⟨by simp only [List.cons_append, List.nil_append, List.mem_cons, not_or]; exact ⟨hne, x⟩, by rw [upd_ne hne]; exact y⟩
theorem SR.newDic {p : Addr} (h : SR K Gf N H rs) (hp : H p = none) : SR K Gf N (upd H p (.dK [])) (tmp (.ref p) .dic :: rs) := by
  obtain ⟨n, F, nd, r, g⟩ := h
  have hF : p ∉ F := fun z => by
    obtain ⟨o, e⟩ := r.dom p z
    rw [hp] at e; cases e
  have hN := notN n g hp
  refine ⟨n, [] ++ F, nd, RepO.cons (F1 := []) (.dic (hid_some.mpr ⟨fun z => ?_, upd_same⟩)) (r.mono (le_upd hp) fun a ha => upd_ne fun z => hF (z ▸ ha)), g.trans (le_upd hp)⟩
  rcases List.mem_append.mp z with z | z
  · exact hF z
  · exact hN z
end
end FL

/-! F4: items, fields: read and written. -/
namespace FL
open PySem PySem.Spec PyProof.Rows L2
section
variable {K : PySem.W.Frag} {G H G' H' Gf : Hp} {N : List Addr} {rs rs' ts : List Root} {v : V} {d : D}

theorem Reps.get : ∀ {vs : List V} {ds : List D} {F : List Addr} {j : Nat} {x : D}, Reps K G H vs ds F → ds[j]? = some x → ∃ u A B C, vs[j]? = some u ∧ F = A ++ (B ++ C) ∧ Rep K G H u x B
  | _, _, _, _, _, .nil, h => by simp at h
  | _, _, _, 0, x, .cons (F1 := F1) (F2 := F2) r t, h => by
    simp at h; subst h
    exact ⟨_, [], F1, F2, rfl, rfl, r⟩
  | _, _, _, j + 1, x, .cons (F1 := F1) r t, h => by
    obtain ⟨u, A, B, C, e, rfl, q⟩ := Reps.get (j := j) t (by simpa using h)
    exact ⟨u, F1 ++ A, B, C, by simpa using e, by simp [List.append_assoc], q⟩
theorem Reps.get0 : ∀ {vs : List V} {ds : List D} {j : Nat} {x : D} {u : V}, Reps K G H vs ds [] → ds[j]? = some x → vs[j]? = some u → Rep K G H u x [] := fun {vs ds j x u} r h e => by
  obtain ⟨u', A, B, C, e', ef, q⟩ := r.get h
  rw [e] at e'
  cases e'
  have : B = [] := by
    have := congrArg List.length ef
    simp at this
    exact List.length_eq_zero_iff.mp (by omega)
  subst this
  exact q
/-- the item at j is replaced -/
theorem Reps.setR : ∀ {vs : List V} {ds : List D} {F Fx : List Addr} {j : Nat}, Reps K G H vs ds F → Rep K G H v d Fx → j < ds.length → ∃ A B C, F = A ++ (B ++ C) ∧ Reps K G H (vs.set j v) (ds.set j d) (A ++ (Fx ++ C))
  | _, _, _, _, _, .nil, _, h => by simp at h
  | _, _, _, Fx, 0, .cons (F1 := F1) (F2 := F2) r t, x, _ => ⟨[], F1, F2, rfl, Reps.cons (F1 := Fx) x t⟩
  | _, _, _, Fx, j + 1, .cons (F1 := F1) r t, x, h => by
    obtain ⟨A, B, C, rfl, q⟩ := Reps.setR (j := j) t x (by simpa using h)
    refine ⟨F1 ++ A, B, C, by simp [List.append_assoc], ?_⟩
    simp only [List.set_cons_succ]
    rw [List.append_assoc]
    exact .cons r q
/-- the item at j becomes shared -/
theorem Reps.shareJ : ∀ {vs : List V} {ds : List D} {F : List Addr} {j : Nat} {x : D}, Reps K G H vs ds F → ds[j]? = some x → ∃ u A B C, vs[j]? = some u ∧ F = A ++ (B ++ C) ∧
    ∀ G', Le G G' → (∀ a ∈ B, G' a = H a) → Rep K G' H u (FL.share x) [] ∧ Reps K G' H vs (ds.set j (FL.share x)) (A ++ C)
  | _, _, _, _, _, .nil, h => by simp at h
  | _, _, _, 0, x, .cons (F1 := F1) (F2 := F2) r t, h => by
    simp at h; subst h
    exact ⟨_, [], F1, F2, rfl, rfl, fun G' g hb => ⟨r.share g hb, Reps.cons (F1 := []) (r.share g hb) (t.mono g fun _ _ => rfl)⟩⟩
  | _, _, _, j + 1, x, .cons (F1 := F1) r t, h => by
    obtain ⟨u, A, B, C, e, rfl, q⟩ := Reps.shareJ (j := j) t (by simpa using h)
    refine ⟨u, F1 ++ A, B, C, by simpa using e, by simp [List.append_assoc], fun G' g hb => ?_⟩
    obtain ⟨q1, q2⟩ := q G' g hb
    refine ⟨q1, ?_⟩
    simp only [List.set_cons_succ]
    rw [List.append_assoc]
    exact .cons (r.mono g fun _ _ => rfl) q2
theorem lists_nodup {A B C X Y : List Addr} (h : (A ++ (B ++ C) ++ (X ++ Y)).Nodup) : (A ++ (X ++ C) ++ Y).Nodup := by
  have p : (A ++ (X ++ C) ++ Y).Perm ((A ++ C) ++ (X ++ Y)) := by
    have p1 : (A ++ (X ++ C)).Perm (A ++ (C ++ X)) := List.Perm.append_left _ List.perm_append_comm
    have p2 := p1.append_right Y
    refine p2.trans ?_
    rw [List.append_assoc, List.append_assoc, List.append_assoc]
  refine p.nodup_iff.mpr (h.sublist ?_)
  have s : (A ++ C).Sublist (A ++ (B ++ C)) := (List.sublist_append_right B C).append_left A
  exact s.append_right _
theorem nodup_out {A B C X : List Addr} (h : (A ++ (B ++ C) ++ X).Nodup) : (A ++ C ++ X).Nodup := by
  have s : (A ++ C).Sublist (A ++ (B ++ C)) := (List.sublist_append_right B C).append_left A
  exact h.sublist (s.append_right _)
/-- a list's content is written anew; ms: roots that go into it -/
theorem SR.writeL {a : Addr} {ds : List D} {ms : List Root} (h : SR K Gf N H (tmp (.ref a) (.lst .own ds) :: (ms ++ rs))) :
    ∃ vs, H a = some (.lst vs) ∧ vs.length = ds.length ∧ ∀ vs' ds', (∀ G F1 Fm, Reps K G H vs ds F1 → RepO K G H ms Fm → (F1 ++ Fm).Nodup → ∃ F', Reps K G H vs' ds' F' ∧ (∀ b ∈ F', b ∈ F1 ++ Fm) ∧ F'.Nodup) →
      SR K Gf N (upd H a (.lst vs')) (tmp (.ref a) (.lst .own ds') :: rs) := by
  obtain ⟨n, F, nd, r, g⟩ := h
  cases r with
  | cons x r =>
    rename_i F0 F3
    obtain ⟨Fm, F2, rfl, rm, r2⟩ := r.split
    cases x with
    | lstO e q =>
      rename_i vs F1
      refine ⟨vs, e, q.length, fun vs' ds' f => ?_⟩
      obtain ⟨ha, nd'⟩ := List.nodup_cons.mp (show (a :: (F1 ++ (Fm ++ F2))).Nodup from nd)
      rw [← List.append_assoc] at nd'
      obtain ⟨ndm, nd2, dj⟩ := List.nodup_append.mp nd'
      obtain ⟨F', q', sub, ndF⟩ := f _ F1 Fm q rm ndm
      have aF' : a ∉ F' := fun z => ha (by have := sub a z; simp only [List.mem_append] at this ⊢; rcases this with z | z <;> simp [z])
      have aF2 : a ∉ F2 := fun z => ha (by simp [z])
      have le : Le (hid ((a :: F1) ++ (Fm ++ F2) ++ N) H) (hid ((a :: F') ++ F2 ++ N) (upd H a (.lst vs'))) := fun b u e => by
        obtain ⟨x, y⟩ := hid_some.mp e
        simp only [List.cons_append, List.mem_cons, List.mem_append, not_or] at x
        refine hid_some.mpr ⟨?_, by rw [upd_ne x.1]; exact y⟩
        simp only [List.cons_append, List.mem_cons, List.mem_append, not_or]
        refine ⟨x.1, ⟨fun z => ?_, x.2.1.2.2⟩, x.2.2⟩
        rcases List.mem_append.mp (sub b z) with z | z
        · exact x.2.1.1 z
        · exact x.2.1.2.1 z
      refine ⟨n, (a :: F') ++ F2, ?_, RepO.cons (.lstO upd_same (q'.mono le fun b hb => upd_ne fun z => aF' (z ▸ hb))) (r2.mono le fun b hb => upd_ne fun z => aF2 (z ▸ hb)), fun b u e => ?_⟩
      · refine List.nodup_cons.mpr ⟨fun z => ?_, List.nodup_append.mpr ⟨ndF, nd2, fun b hb c hc e => ?_⟩⟩
        · rcases List.mem_append.mp z with z | z
          · exact aF' z
          · exact aF2 z
        · exact dj b (sub b hb) c hc e
      · obtain ⟨x, y⟩ := hid_some.mp (g b u e)
        simp only [List.cons_append, List.mem_cons, List.mem_append, not_or] at x
        refine hid_some.mpr ⟨?_, by rw [upd_ne x.1]; exact y⟩
        simp only [List.cons_append, List.mem_cons, List.mem_append, not_or]
        refine ⟨x.1, fun z => ?_, x.2.2.2⟩
        rcases List.mem_append.mp (sub b z) with z | z
        · exact x.2.1 z
        · exact x.2.2.1 z
theorem SR.writeO {a : Addr} {c : Str} {ns : List Str} {ds : List D} {ms : List Root} (h : SR K Gf N H (tmp (.ref a) (.obj .own c ns ds) :: (ms ++ rs))) :
    ∃ dx vs, H a = some (.ins (He.ga K c) dx (ns.zip vs)) ∧ ns.length = vs.length ∧ vs.length = ds.length ∧ ∀ ns' vs' ds', ns'.length = vs'.length → (∀ G F1 Fm, Reps K G H vs ds F1 → RepO K G H ms Fm → (F1 ++ Fm).Nodup → ∃ F', Reps K G H vs' ds' F' ∧ (∀ b ∈ F', b ∈ F1 ++ Fm) ∧ F'.Nodup) →
      SR K Gf N (upd H a (.ins (He.ga K c) dx (ns'.zip vs'))) (tmp (.ref a) (.obj .own c ns' ds') :: rs) := by
  obtain ⟨n, F, nd, r, g⟩ := h
  cases r with
  | cons x r =>
    rename_i F0 F3
    obtain ⟨Fm, F2, rfl, rm, r2⟩ := r.split
    cases x with
    | objO e l q =>
      rename_i dx vs F1
      refine ⟨dx, vs, e, l, q.length, fun ns' vs' ds' hl f => ?_⟩
      obtain ⟨ha, nd'⟩ := List.nodup_cons.mp (show (a :: (F1 ++ (Fm ++ F2))).Nodup from nd)
      rw [← List.append_assoc] at nd'
      obtain ⟨ndm, nd2, dj⟩ := List.nodup_append.mp nd'
      obtain ⟨F', q', sub, ndF⟩ := f _ F1 Fm q rm ndm
      have aF' : a ∉ F' := fun z => ha (by have := sub a z; simp only [List.mem_append] at this ⊢; rcases this with z | z <;> simp [z])
      have aF2 : a ∉ F2 := fun z => ha (by simp [z])
      have le : Le (hid ((a :: F1) ++ (Fm ++ F2) ++ N) H) (hid ((a :: F') ++ F2 ++ N) (upd H a (.ins (He.ga K c) dx (ns'.zip vs')))) := fun b u e => by
        obtain ⟨x, y⟩ := hid_some.mp e
        simp only [List.cons_append, List.mem_cons, List.mem_append, not_or] at x
        refine hid_some.mpr ⟨?_, by rw [upd_ne x.1]; exact y⟩
        simp only [List.cons_append, List.mem_cons, List.mem_append, not_or]
        refine ⟨x.1, ⟨fun z => ?_, x.2.1.2.2⟩, x.2.2⟩
        rcases List.mem_append.mp (sub b z) with z | z
        · exact x.2.1.1 z
        · exact x.2.1.2.1 z
      refine ⟨n, (a :: F') ++ F2, ?_, RepO.cons (.objO upd_same hl (q'.mono le fun b hb => upd_ne fun z => aF' (z ▸ hb))) (r2.mono le fun b hb => upd_ne fun z => aF2 (z ▸ hb)), fun b u e => ?_⟩
      · refine List.nodup_cons.mpr ⟨fun z => ?_, List.nodup_append.mpr ⟨ndF, nd2, fun b hb c hc e => ?_⟩⟩
        · rcases List.mem_append.mp z with z | z
          · exact aF' z
          · exact aF2 z
        · exact dj b (sub b hb) c hc e
      · obtain ⟨x, y⟩ := hid_some.mp (g b u e)
        simp only [List.cons_append, List.mem_cons, List.mem_append, not_or] at x
        refine hid_some.mpr ⟨?_, by rw [upd_ne x.1]; exact y⟩
        simp only [List.cons_append, List.mem_cons, List.mem_append, not_or]
        refine ⟨x.1, fun z => ?_, x.2.2.2⟩
        rcases List.mem_append.mp (sub b z) with z | z
        · exact x.2.1 z
        · exact x.2.2.1 z
theorem ms1 {F : List Addr} (h : RepO K G H [tmp v d] F) : Rep K G H v d F := by
  cases h with
  | cons x r => cases r; rw [List.append_nil]; exact x
theorem SR.setAt {a : Addr} {ds : List D} (h : SR K Gf N H (tmp (.ref a) (.lst .own ds) :: tmp v d :: rs)) :
    ∃ vs, H a = some (.lst vs) ∧ vs.length = ds.length ∧ ∀ j, j < ds.length → SR K Gf N (upd H a (.lst (vs.set j v))) (tmp (.ref a) (.lst .own (ds.set j d)) :: rs) := by
  obtain ⟨vs, e, l, f⟩ := SR.writeL (ms := [tmp v d]) h
  refine ⟨vs, e, l, fun j hj => f _ _ fun G F1 Fm r m nd => ?_⟩
  obtain ⟨A, B, C, rfl, q⟩ := r.setR (ms1 m) hj
  refine ⟨_, q, fun b hb => ?_, ?_⟩
  · simp only [List.mem_append] at hb ⊢
    rcases hb with z | z | z <;> simp [z]
  · have := lists_nodup (A := A) (B := B) (C := C) (X := Fm) (Y := []) (by simpa using nd)
    simpa using this
theorem SR.push {a : Addr} {ds : List D} (h : SR K Gf N H (tmp (.ref a) (.lst .own ds) :: tmp v d :: rs)) :
    ∃ vs, H a = some (.lst vs) ∧ vs.length = ds.length ∧ SR K Gf N (upd H a (.lst (vs ++ [v]))) (tmp (.ref a) (.lst .own (ds ++ [d])) :: rs) := by
  obtain ⟨vs, e, l, f⟩ := SR.writeL (ms := [tmp v d]) h
  refine ⟨vs, e, l, f _ _ fun G F1 Fm r m nd => ⟨F1 ++ Fm, ?_, fun b hb => hb, nd⟩⟩
  have := r.append (Reps.cons (ms1 m) .nil)
  simpa using this
/-! ### fields -/
theorem look_at : ∀ {ns : List Str} {ds : List D} {f : Str} {x : D}, look ns ds f = some x → ∃ j, ds[j]? = some x ∧ shareAt ns ds f = ds.set j (share x) ∧ ∀ vs : List V, vs.length = ds.length → (ns.zip vs).lookup f = vs[j]?
  | [], _, _, _, h => by simp [look] at h
  | _ :: _, [], _, _, h => by simp [look] at h
  | n :: ns, d :: ds, f, x, h => by
    unfold look at h
    by_cases e : f = n
    · rw [if_pos e] at h
      cases h
      refine ⟨0, rfl, by unfold shareAt; rw [if_pos e]; rfl, fun vs hl => ?_⟩
      cases vs with
      | nil => simp at hl
      | cons v vs =>
        simp only [List.zip_cons_cons, List.lookup]
        rw [show (f == n) = true from beq_iff_eq.mpr e]
        rfl
    · rw [if_neg e] at h
      obtain ⟨j, a, b, c⟩ := look_at h
      refine ⟨j + 1, by simpa using a, by unfold shareAt; rw [if_neg e, b]; rfl, fun vs hl => ?_⟩
      cases vs with
      | nil => simp at hl
      | cons v vs =>
        simp only [List.zip_cons_cons, List.lookup]
        rw [show (f == n) = false from beq_eq_false_iff_ne.mpr e]
        simpa using c vs (by simpa using hl)
theorem put_at : ∀ {ns : List Str} {ds : List D} {vs : List V} {f : Str} {d : D} {v : V}, ns.length = vs.length → vs.length = ds.length →
    ∃ vs', putF f v (ns.zip vs) = (putD ns ds f d).1.zip vs' ∧ (putD ns ds f d).1.length = vs'.length ∧
      ((∃ j, j < ds.length ∧ vs' = vs.set j v ∧ (putD ns ds f d).2 = ds.set j d) ∨ (vs' = vs ++ [v] ∧ (putD ns ds f d).2 = ds ++ [d]))
  | [], [], [], f, d, v, _, _ => ⟨[v], by simp [putF, putD], by simp [putD], .inr ⟨rfl, by simp [putD]⟩⟩
  | [], _ :: _, [], _, _, _, _, h => by simp at h
  | [], _, _ :: _, _, _, _, h, _ => by simp at h
  | _ :: _, _, [], _, _, _, h, _ => by simp at h
  | _ :: _, [], _ :: _, _, _, _, _, h => by simp at h
  | n :: ns, x :: ds, u :: vs, f, d, v, h1, h2 => by
    simp only [List.zip_cons_cons]
    unfold putF putD
    by_cases e : f = n
    · rw [if_pos e.symm, if_pos e]
      refine ⟨v :: vs, by simp, by simpa using h1, .inl ⟨0, by simp, rfl, rfl⟩⟩
    · rw [if_neg fun z => e z.symm, if_neg e]
      obtain ⟨vs', a, b, c⟩ := put_at (ns := ns) (ds := ds) (vs := vs) (f := f) (d := d) (v := v) (by simpa using h1) (by simpa using h2)
      refine ⟨u :: vs', by simp [a], by simpa using b, ?_⟩
      rcases c with ⟨j, hj, e1, e2⟩ | ⟨e1, e2⟩
      · exact .inl ⟨j + 1, by simpa using hj, by simp [e1], by simp [e2]⟩
      · exact .inr ⟨by simp [e1], by simp [e2]⟩
theorem SR.setF {a : Addr} {c : Str} {ns : List Str} {ds : List D} {f : Str} (h : SR K Gf N H (tmp (.ref a) (.obj .own c ns ds) :: tmp v d :: rs)) :
    ∃ dx fs, H a = some (.ins (He.ga K c) dx fs) ∧ fs.length = ds.length ∧ SR K Gf N (upd H a (.ins (He.ga K c) dx (putF f v fs))) (tmp (.ref a) (.obj .own c (putD ns ds f d).1 (putD ns ds f d).2) :: rs) := by
  obtain ⟨dx, vs, e, l1, l2, g⟩ := SR.writeO (ms := [tmp v d]) h
  obtain ⟨vs', e1, e2, e3⟩ := put_at (f := f) (d := d) (v := v) l1 l2
  refine ⟨dx, _, e, by rw [List.length_zip]; omega, ?_⟩
  rw [e1]
  refine g _ vs' _ e2 fun G F1 Fm r m nd => ?_
  rcases e3 with ⟨j, hj, q1, q2⟩ | ⟨q1, q2⟩
  · rw [q1, q2]
    obtain ⟨A, B, C, rfl, q⟩ := r.setR (ms1 m) hj
    refine ⟨_, q, fun b hb => ?_, ?_⟩
    · simp only [List.mem_append] at hb ⊢
      rcases hb with z | z | z <;> simp [z]
    · have := lists_nodup (A := A) (B := B) (C := C) (X := Fm) (Y := []) (by simpa using nd)
      simpa using this
  · rw [q1, q2]
    refine ⟨F1 ++ Fm, ?_, fun b hb => hb, nd⟩
    have := r.append (Reps.cons (ms1 m) .nil)
    simpa using this
/-! ### a container is read: the item becomes shared within it -/
/-- seqD d ds: d is a list or a tuple of ds -/
inductive SeqOf : D → List D → Prop
  | lst (f : Fl) (ds : List D) : SeqOf (.lst f ds) ds
  | tup (ds : List D) : SeqOf (.tup ds) ds
/-- what stands at a container's address -/
def Cont (K : PySem.W.Frag) (H : Hp) (a : Addr) (vs : List V) : D → Prop
  | .lst f _ => SqL K H a vs ∧ (f ≠ .frz → H a = some (.lst vs))
  | .tup _ => SqT K H a vs
  | .obj _ c ns _ => ns.length = vs.length ∧ ∃ dx, H a = some (.ins (He.ga K c) dx (ns.zip vs))
  | _ => False
def isCont : D → Bool
  | .lst _ _ => true
  | .tup _ => true
  | .obj _ _ _ _ => true
  | _ => false
theorem Rep.cont {F : List Addr} (h : Rep K G H v d F) (g : Le G H) (hc : isCont d = true) : ∃ a vs F0 F1, v = .ref a ∧ F = F0 ++ F1 ∧ Cont K H a vs d ∧ Reps K G H vs (itemsD d) F1 ∧ (∀ a ∈ F0, v = .ref a) ∧
    ∀ G' ds' F', Le G G' → Reps K G' H vs ds' F' → (F = [] → F' = []) → Rep K G' H v (setSeq d ds') (F0 ++ F') := by
  cases h with
  | non => cases hc
  | bl _ => cases hc
  | int _ => cases hc
  | str _ => cases hc
  | hole _ => cases hc
  | dic _ => cases hc
  | any _ => cases hc
  | tup s r => exact ⟨_, _, [], _, rfl, rfl, SqT.le s g, r, by simp, fun G' ds' F' g' r' _ => .tup (SqT.le s g') r'⟩
  | lstF s r => exact ⟨_, _, [], _, rfl, rfl, ⟨SqL.le s g, fun z => absurd rfl z⟩, r, by simp, fun G' ds' F' g' r' e => by rw [e rfl] at r' ⊢; exact .lstF (SqL.le s g') r'⟩
  | lstS s r => exact ⟨_, _, [], _, rfl, rfl, ⟨.inl (.inl (g _ _ s)), fun _ => g _ _ s⟩, r, by simp, fun G' ds' F' g' r' e => by rw [e rfl] at r' ⊢; exact .lstS (g' _ _ s) r'⟩
  | lstO s r => exact ⟨_, _, [_], _, rfl, rfl, ⟨.inl (.inl s), fun _ => s⟩, r, by simp, fun G' ds' F' g' r' _ => .lstO s r'⟩
  | objS s l r => exact ⟨_, _, [], _, rfl, rfl, ⟨l, _, g _ _ s⟩, r, by simp, fun G' ds' F' g' r' e => by rw [e rfl] at r' ⊢; exact .objS (g' _ _ s) l r'⟩
  | objO s l r => exact ⟨_, _, [_], _, rfl, rfl, ⟨l, _, s⟩, r, by simp, fun G' ds' F' g' r' _ => .objO s l r'⟩
theorem SR.contV (h : SR K Gf N H (tmp v d :: rs)) (hc : isCont d = true) : ∃ a vs, v = .ref a ∧ Cont K H a vs d ∧ vs.length = (itemsD d).length := by
  obtain ⟨G, F, g, r⟩ := h.head
  obtain ⟨a, vs, F0, F1, e, _, c, q, _⟩ := r.cont g hc
  exact ⟨a, vs, e, c, q.length⟩
theorem SR.pick (h : SR K Gf N H (tmp v d :: rs)) (hc : isCont d = true) : ∃ a vs, v = .ref a ∧ Cont K H a vs d ∧ vs.length = (itemsD d).length ∧
    ∀ j x, (itemsD d)[j]? = some x → ∃ u, vs[j]? = some u ∧ SR K Gf N H (tmp u (share x) :: tmp v (setSeq d ((itemsD d).set j (share x))) :: rs) := by
  obtain ⟨n, F, nd, r, g⟩ := h
  cases r with
  | cons y r =>
    rename_i Fy F2
    obtain ⟨a, vs, F0, F1, e, eF, c, q, _, mk⟩ := y.cont hid_le hc
    refine ⟨a, vs, e, c, q.length, fun j x hj => ?_⟩
    obtain ⟨u, A, B, C, eu, e1, sh⟩ := q.shareJ hj
    subst e1 eF
    have nd' : (F0 ++ (A ++ C) ++ F2).Nodup := by
      have := nodup_out (A := F0 ++ A) (B := B) (C := C) (X := F2) (by simpa [List.append_assoc] using nd)
      simpa [List.append_assoc] using this
    have hN : ∀ a ∈ N, a ∉ F0 ++ (A ++ (B ++ C)) ++ F2 := fun a ha => by
      obtain ⟨o, e⟩ := n a ha
      exact (hid_some.mp (g a o e)).1
    have le : Le (hid (F0 ++ (A ++ (B ++ C)) ++ F2 ++ N) H) (hid (F0 ++ (A ++ C) ++ F2 ++ N) H) := hid_mono fun b hb => by
      simp only [List.mem_append] at hb ⊢
      rcases hb with ((z | z | z) | z) | z <;> simp [z]
    have vis : ∀ b ∈ B, hid (F0 ++ (A ++ C) ++ F2 ++ N) H b = H b := fun b hb => by
      refine hid_out fun z => ?_
      have hbN : b ∉ N := fun w => hN b w (by simp [hb])
      have ndB := nd
      simp only [List.nodup_append, List.mem_append] at ndB
      simp only [List.mem_append] at z
      rcases z with ((z | z | z) | z) | z
      · exact ndB.1.2.2 b z b (.inr (.inl hb)) rfl
      · exact ndB.1.2.1.2.2 b z b (.inl hb) rfl
      · exact ndB.1.2.1.2.1.2.2 b hb b z rfl
      · exact ndB.2.2 b (.inr (.inr (.inl hb))) b z rfl
      · exact hbN z
    obtain ⟨q1, q2⟩ := sh _ le vis
    refine ⟨u, eu, n, F0 ++ (A ++ C) ++ F2, nd', RepO.cons (F1 := []) q1 (RepO.cons (mk _ _ _ le q2 fun z => ?_) (r.mono le fun _ _ => rfl)), g.trans (hid_mono fun b hb => ?_)⟩
    · have := congrArg List.length z
      simp at this
      apply List.length_eq_zero_iff.mp
      simp [this]
    · simp only [List.mem_append] at hb ⊢
      rcases hb with (z | z | z) | z <;> simp [z]
/-- the items of a shared container as roots of their own -/
theorem SR.items (h : SR K Gf N H (tmp v d :: rs)) (hs : share d = d) (hc : isCont d = true) : ∃ a vs, v = .ref a ∧ Cont K H a vs d ∧ vs.length = (itemsD d).length ∧ SR K Gf N H (tmps vs (itemsD d) ++ tmp v d :: rs) := by
  obtain ⟨n, F, nd, r, g⟩ := h
  cases r with
  | cons y r =>
    rename_i Fy F2
    have e := y.sharedF hs
    subst e
    obtain ⟨a, vs, F0, F1, e, eF, c, q, _, mk⟩ := y.cont hid_le hc
    have e0 : F1 = [] := by
      have := congrArg List.length eF
      simp at this
      exact List.length_eq_zero_iff.mp (by omega)
    subst e0
    exact ⟨a, vs, e, c, q.length, n, [] ++ ([] ++ F2), nd, (reps_tmps q).append (RepO.cons (F1 := []) y r), g⟩
theorem Reps.cons0 {vs : List V} {ds : List D} (r : Reps K G H (v :: vs) (d :: ds) []) : Rep K G H v d [] ∧ Reps K G H vs ds [] := by
  have gen : ∀ F, Reps K G H (v :: vs) (d :: ds) F → F = [] → Rep K G H v d [] ∧ Reps K G H vs ds [] := by
    intro F r e
    cases r with
    | cons x t =>
      obtain ⟨e1, e2⟩ := List.append_eq_nil_iff.mp e
      rw [e1] at x; rw [e2] at t
      exact ⟨x, t⟩
  exact gen _ r rfl
theorem Reps.drop0 : ∀ {vs : List V} {ds : List D} (n : Nat), Reps K G H vs ds [] → Reps K G H (vs.drop n) (ds.drop n) []
  | vs, ds, 0, r => by simpa using r
  | [], [], n + 1, r => by simpa using r
  | _ :: _, [], n + 1, r => by cases r
  | [], _ :: _, n + 1, r => by cases r
  | v :: vs, d :: ds, n + 1, r => by simpa using Reps.drop0 n r.cons0.2
theorem Reps.take0 : ∀ {vs : List V} {ds : List D} (n : Nat), Reps K G H vs ds [] → Reps K G H (vs.take n) (ds.take n) []
  | vs, ds, 0, r => by simpa using Reps.nil
  | [], [], n + 1, r => by simpa using r
  | _ :: _, [], n + 1, r => by cases r
  | [], _ :: _, n + 1, r => by cases r
  | v :: vs, d :: ds, n + 1, r => by simpa using Reps.cons (F1 := []) r.cons0.1 (Reps.take0 n r.cons0.2)
end
end FL

/-! F5: the operations, by values. -/
namespace FL
open PySem PySem.Spec PyProof.Rows L2
section
variable {K : PySem.W.Frag} {G H G' H' Gf : Hp} {N : List Addr} {rs rs' ts : List Root} {v w : V} {d e : D}
/-! ### scalars -/
theorem SR.isInt {i : Int} (h : SR K Gf N H (tmp v (.int i) :: rs)) : v = .int i := by
  obtain ⟨_, _, _, r⟩ := h.head; cases r; rfl
theorem SR.isBl {b : Bool} (h : SR K Gf N H (tmp v (.bl b) :: rs)) : v = .bl b := by
  obtain ⟨_, _, _, r⟩ := h.head; cases r; rfl
theorem SR.isStr {x : Str} (h : SR K Gf N H (tmp v (.str x) :: rs)) : v = .str x := by
  obtain ⟨_, _, _, r⟩ := h.head; cases r; rfl
theorem SR.isNon (h : SR K Gf N H (tmp v .non :: rs)) : v = .non := by
  obtain ⟨_, _, _, r⟩ := h.head; cases r; rfl
theorem SR.dropMid {r r' : Root} (h : SR K Gf N H (r :: r' :: rs)) : SR K Gf N H (r :: rs) := h.swap2.drop

/-- what a binary operation by values must do -/
def Op2 (K : PySem.W.Frag) (r : R2) (f : D → D → Option D) : Prop := ∀ {Gf : Hp} {N : List Addr} {rs : List Root} {v w : V} {dv dw d : D} {H : Hp} {Q : VK},
  SR K Gf N H (tmp w dw :: tmp v dv :: rs) → f dv dw = some d → (∀ u H', SR K Gf N H' (tmp u d :: rs) → Q u H') → r v w H Q
def ror (r r' : R2) : R2 := fun x y H Q => r x y H Q ∨ r' x y H Q
theorem OpR.or {X : Cx} {f : Value → Value → Sem Value} {r r' : R2} (h : OpR X f r) (h' : OpR X f r') : OpR X f (ror r r') := fun pins s σ H x y v u Q I rx ry q => q.elim (h pins s σ H x y v u Q I rx ry) (h' pins s σ H x y v u Q I rx ry)

/-! ### lists -/
theorem tmps_append : ∀ {vs ws : List V} {xs ys : List D}, vs.length = xs.length → tmps (vs ++ ws) (xs ++ ys) = tmps vs xs ++ tmps ws ys
  | [], _, [], _, _ => rfl
  | v :: vs, ws, x :: xs, ys, h => by simp [tmps, tmps_append (vs := vs) (xs := xs) (by simpa using h)]
  | [], _, _ :: _, _, h => by simp at h
  | _ :: _, _, [], _, h => by simp at h
theorem share_lst {f : Fl} {xs : List D} : share (.lst f xs) = .lst f.sh (shares xs) := by simp [share]
theorem share_tup {xs : List D} : share (.tup xs) = .tup (shares xs) := by simp [share]
theorem sh_frz {f : Fl} (h : f ≠ .frz) : f.sh ≠ .frz := by cases f <;> simp_all [Fl.sh]
/-- one container's items -/
theorem SR.items1 (h : SR K Gf N H (tmp v d :: rs)) (hc : isCont d = true) : ∃ a vs, v = .ref a ∧ Cont K H a vs d ∧ vs.length = (itemsD d).length ∧ SR K Gf N H (tmps vs (shares (itemsD d)) ++ rs) := by
  have h1 := h.share1
  have hc' : isCont (share d) = true := by cases d <;> simp_all [share, isCont]
  obtain ⟨a, vs, e, c, l, h2⟩ := h1.items (share_share d) hc'
  have h3 := h2.toFront.drop
  have ei : itemsD (share d) = shares (itemsD d) := by cases d <;> simp [share, itemsD, shares]
  rw [ei] at h3 l
  refine ⟨a, vs, e, ?_, by rw [l, shares_len], h3⟩
  cases d with
  | lst f xs => rw [share_lst] at c; exact ⟨c.1, fun z => c.2 (sh_frz z)⟩
  | tup xs => rw [share_tup] at c; exact c
  | obj o cc ns xs => simp only [share] at c; exact c
  | _ => cases hc
/-- two lists' items side by side -/
theorem SR.items2 {f g : Fl} {xs ys : List D} (h : SR K Gf N H (tmp w (.lst g ys) :: tmp v (.lst f xs) :: rs)) :
    ∃ a b vs ws, v = .ref a ∧ w = .ref b ∧ Cont K H a vs (.lst f xs) ∧ Cont K H b ws (.lst g ys) ∧ vs.length = xs.length ∧ ws.length = ys.length ∧ SR K Gf N H (tmps (vs ++ ws) (shares xs ++ shares ys) ++ rs) := by
  obtain ⟨a, vs, ea, ca, la, h1⟩ := h.swap2.items1 rfl
  obtain ⟨b, ws, eb, cb, lb, h2⟩ := (h1.toFront).items1 rfl
  have la' : vs.length = xs.length := la
  have lb' : ws.length = ys.length := lb
  refine ⟨a, b, vs, ws, ea, eb, ca, cb, la', lb', ?_⟩
  rw [tmps_append (by rw [la']; exact (shares_len xs).symm)]
  exact h2.perm (by rw [← List.append_assoc]; exact (List.perm_append_comm).append_right _)
theorem dbl_len {α β : Type} {a b : List α} {c d : List β} (h1 : a.length = c.length) (h2 : b.length = d.length) : (a ++ b).length = (c ++ d).length := by simp [h1, h2]

/-! ### binary operations -/
def CFd (i j : Int) : Prop := j ≠ 0 ∧ (j.natAbs.log2 < 9000 ∨ i.natAbs.log2 < 13530)
theorem noPylong_num {x y : Int} (h : x.natAbs.log2 < 13530) : Builtin.divisionGoesByPylong x y = false := by
  show (decide ((if y == 0 then 0 else y.natAbs.log2 / 30 + 1) > 300) && decide ((if x == 0 then 0 else x.natAbs.log2 / 30 + 1) > (if y == 0 then 0 else y.natAbs.log2 / 30 + 1) + 150)) = false
  have key : (if x == 0 then 0 else x.natAbs.log2 / 30 + 1) ≤ 451 := by
    by_cases hx : (x == 0) = true
    · rw [if_pos hx]; exact Nat.zero_le _
    · rw [if_neg hx]; omega
  generalize (if x == 0 then 0 else x.natAbs.log2 / 30 + 1) = a at *
  generalize (if y == 0 then 0 else y.natAbs.log2 / 30 + 1) = b at *
  by_cases h : b > 300
  · rw [decide_eq_false (p := a > b + 150) (by omega), Bool.and_false]
  · rw [decide_eq_false h, Bool.false_and]
theorem noPylong_or {x y : Int} (h : y.natAbs.log2 < 9000 ∨ x.natAbs.log2 < 13530) : Builtin.divisionGoesByPylong x y = false := h.elim PyProof.noPylong_of_log2 noPylong_num
theorem op_fdivA {X : Cx} : OpR X (binaryOp .FloorDiv) (rI CFd fun i j => .int (i.fdiv j)) := opI fun i j _ _ _ _ _ hc q => floordiv_int hc.1 q (.inl (noPylong_or hc.2))
def CPw (i j : Int) : Prop := 0 ≤ j ∧ j ≤ 1000000 ∧ (i.natAbs < 2 ^ 64 ∨ (i.natAbs.log2 < 1000 ∧ j ≤ 1000))
theorem pow_bits {a n : Int} (h : CPw a n) : (Builtin.Int.intBits a : Int) * n ≤ 2 ^ 27 := by
  obtain ⟨h0, h1, h2 | ⟨h2, h3⟩⟩ := h
  · exact bits_mul_le h2 h0 h1
  · have hb : Builtin.Int.intBits a ≤ 1000 := by
      unfold Builtin.Int.intBits
      split <;> omega
    have : (Builtin.Int.intBits a : Int) * n ≤ 1000 * n := Int.mul_le_mul_of_nonneg_right (by omega) h0
    omega
theorem op_powA {X : Cx} : OpR X (binaryOp .Pow) (rI CPw fun i j => .int (i ^ j.toNat)) := opI fun _ _ _ _ _ _ _ hc q => pow_int hc.1 (pow_bits hc) q
theorem op_mulA {X : Cx} : OpR X (binaryOp .Mult) (rI IntMulOk fun i j => .int (i * j)) := opI fun _ _ _ _ _ _ _ hc q => mul_int q hc
theorem tuple_mul1 (l : Addr) (items : Array Value) (n : Nat) (sl : Array (Option Value)) (dd : Option Addr) (x : Int) (u : Tok) (c0 : (decide (x < -(2 ^ 63)) || decide (x ≥ 2 ^ 63)) = false) (c1 : (items.isEmpty || x == 1) = true) :
    Meets (Builtin.«tuple.__mul__» ⟨[.ref l, .int x u], []⟩) (fun _ R s => s.heap.get? l = some { cls := .type "tuple", dict := dd, data := .seq items n, slots := sl } ∧ R (.ok (.ret (Value.ref l))) s) :=
  .of_wp fun prog w A R s h => by
    obtain ⟨hp, g, d, tk, os⟩ := s
    obtain ⟨hl, h⟩ := h
    have f1 := AutoSeq1.idx_int
    wp_walk using wpAny_loadPart' hl
    repeat (first
      | (refine wpAny_ite_false (decide_eq_false (by rw [c0]; exact Bool.false_ne_true)) ?_; wp_walk using wpAny_loadPart' hl)
      | (refine wpAny_ite_true (decide_eq_true (by rw [c1])) ?_; wp_walk using wpAny_loadPart' hl))
    exact ⟨_, rfl, h⟩
theorem tuple_mul0 (l : Addr) (items : Array Value) (n : Nat) (sl : Array (Option Value)) (dd : Option Addr) (x : Int) (u : Tok) (c0 : (decide (x < -(2 ^ 63)) || decide (x ≥ 2 ^ 63)) = false) (c1 : (items.isEmpty || x == 1) = false) (c2 : (decide (x ≤ 0) || items.isEmpty) = true) :
    Meets (Builtin.«tuple.__mul__» ⟨[.ref l, .int x u], []⟩) (fun _ R s => s.heap.get? l = some { cls := .type "tuple", dict := dd, data := .seq items n, slots := sl } ∧
      R (.ok (.ret (Value.ref s.heap.objs.size))) { s with heap := s.heap.push { cls := Value.type "tuple", data := Data.seq #[] }, toks := s.toks }) :=
  .of_wp fun prog w A R s h => by
    obtain ⟨hp, g, d, tk, os⟩ := s
    obtain ⟨hl, h⟩ := h
    have f1 := AutoSeq1.idx_int
    wp_walk using wpAny_loadPart' hl
    repeat (first
      | (refine wpAny_ite_false (decide_eq_false (by rw [c0]; exact Bool.false_ne_true)) ?_; wp_walk using wpAny_loadPart' hl)
      | (refine wpAny_ite_false (decide_eq_false (by rw [c1]; exact Bool.false_ne_true)) ?_; wp_walk using wpAny_loadPart' hl)
      | (refine wpAny_ite_true (decide_eq_true (by rw [c2])) ?_; wp_walk using wpAny_loadPart' hl)
      | (refine wpAny_ite_false (decide_eq_false (Nat.not_lt.mpr (Nat.zero_le _))) ?_; wp_walk using wpAny_loadPart' hl))
    exact ⟨_, rfl, h⟩
def rRepA (K : PySem.W.Frag) : R2 := fun x y H Q => ∃ l k xs, x = .ref l ∧ y = .int k ∧ SqT K H l xs ∧ xs ≠ [] ∧ 0 ≤ k ∧ k ≤ 1000 ∧ xs.length ≤ 1000 ∧ (k = 1 → Q (.ref l) H) ∧ (k ≠ 1 → ∀ p, H p = none → Q (.ref p) (upd H p (.tup (List.replicate k.toNat xs).flatten)))
theorem op_repA {X : Cx} : OpR X (binaryOp .Mult) (rRepA X.K) := by
  intro pins s σ H x y v u Q I rx ry h
  obtain ⟨l, k, xs, rfl, rfl, hT, hne, h1, h2, hz, q1, q⟩ := h
  by_cases hk : k = 1
  · cases rx
    obtain ⟨t, rfl⟩ := ry
    obtain ⟨its, r, ⟨⟨cls, dd, data, sl⟩, ho, hc, n, hd⟩, hs⟩ := I.tuple hT
    simp only at hc hd
    subst hc hd
    refine wpAny_binaryOp_repeat_ref (T := "tuple") (U := "int") (by decide) ⟨_, ho, rfl⟩ (fun s' => typeIs_int s' k t) noFill_tuple_mul F.fills_int_mul F.slot_int_rmul repeat_tuple F.slot_int_index.lookup
      (call_meets F.slot_int_rmul (typeIs_int s k t) F.entry_int_rmul (F.args_int_rmul_2 _ _) (int_rmul_tuple k t l its.toArray n dd sl)
        ⟨ho, rfl, ⟨_, ho, rfl⟩, call_meets F.slot_tuple_mul ⟨_, ho, rfl⟩ F.entry_tuple_mul (F.args_tuple_mul_2 _ _) (tuple_mul1 l its.toArray n sl dd k t (by subst hk; rfl) (by subst hk; simp)) ⟨ho, ?_⟩⟩)
    exact ⟨.ref l, H, I, rfl, q1 hk⟩
  · by_cases h0 : k = 0
    · cases rx
      obtain ⟨t, rfl⟩ := ry
      obtain ⟨its, r, ⟨⟨cls, dd, data, sl⟩, ho, hc, n, hd⟩, hs⟩ := I.tuple hT
      simp only at hc hd
      subst hc hd
      have hi : its.toArray.isEmpty = false := by
        have hle : its.length = xs.length := r.length.symm
        cases its with
        | nil => exact absurd (List.eq_nil_of_length_eq_zero hle.symm) hne
        | cons a b => rfl
      refine wpAny_binaryOp_repeat_ref (T := "tuple") (U := "int") (by decide) ⟨_, ho, rfl⟩ (fun s' => typeIs_int s' k t) noFill_tuple_mul F.fills_int_mul F.slot_int_rmul repeat_tuple F.slot_int_index.lookup
        (call_meets F.slot_int_rmul (typeIs_int s k t) F.entry_int_rmul (F.args_int_rmul_2 _ _) (int_rmul_tuple k t l its.toArray n dd sl)
          ⟨ho, rfl, ⟨_, ho, rfl⟩, call_meets F.slot_tuple_mul ⟨_, ho, rfl⟩ F.entry_tuple_mul (F.args_tuple_mul_2 _ _) (tuple_mul0 l its.toArray n sl dd k t (by subst h0; rfl) (by subst h0; rw [hi]; rfl) (by subst h0; rfl)) ⟨ho, ?_⟩⟩)
      subst h0
      refine ⟨.ref s.heap.objs.size, _, I.laid (t' := s.toks) (o := .tup []) (fun b ob q => Heap.get?_push_of_some _ q) (Nat.le_refl _) ?_, rfl, q hk _ (I.hok.fresh (Nat.le_refl _))⟩
      exact ⟨Nat.zero_le _, [], .nil, IsTup.new _ _⟩
    · exact op_repT pins s σ H _ _ v u Q I rx ry ⟨l, k, xs, rfl, rfl, hT, hne, by omega, h2, hz, q hk⟩
def rB (K : PySem.W.Frag) : BOp → R2
  | .add => ror (rI0 fun i j => .int (i + j)) (ror rCat (rCatA K))
  | .sub => rI0 fun i j => .int (i - j)
  | .mul => ror (rI IntMulOk fun i j => .int (i * j)) (ror rRep (rRepA K))
  | .fdiv => rI CFd fun i j => .int (i.fdiv j)
  | .mod => rI (fun _ j => 0 < j) fun i j => .int (i % j)
  | .pow => rI CPw fun i j => .int (i ^ j.toNat)
def astB : BOp → Operator
  | .add => .Add
  | .sub => .Sub
  | .mul => .Mult
  | .fdiv => .FloorDiv
  | .mod => .Mod
  | .pow => .Pow
theorem opr_B {X : Cx} (op : BOp) : OpR X (binaryOp (astB op)) (rB X.K op) := by
  cases op with
  | add => exact .or op_add (.or op_cat op_catA)
  | sub => exact op_sub
  | mul => exact .or op_mulA (.or op_rep op_repA)
  | fdiv => exact op_fdivA
  | mod => exact op_mod
  | pow => exact op_powA
theorem mulOk_ok {a b : Int} (h : mulOk a b = true) : IntMulOk a b := by
  unfold mulOk at h
  simp only [Bool.or_eq_true, decide_eq_true_eq] at h
  rcases h with (h | h) | h
  · exact .of_left (intBits_le_64 (by omega) (by omega))
  · exact .of_right (intBits_le_64 (by omega) (by omega))
  · exact CMulW.ok h
theorem rep_flat : ∀ (k : Nat) {vs : List V} {xs : List D}, Reps K G H vs xs [] → Reps K G H (List.replicate k vs).flatten (List.replicate k xs).flatten []
  | 0, _, _, _ => by simpa using Reps.nil
  | k + 1, _, _, r => by
    simp only [List.replicate_succ, List.flatten_cons]
    exact Reps.append (F := []) (F' := []) r (rep_flat k r)
theorem SR.itemsRep (h : SR K Gf N H (tmp v d :: rs)) (hc : isCont d = true) {vs : List V} {a : Addr} (ev : v = .ref a) (hC : Cont K H a vs d) (f : List V → List V) (g : List D → List D)
    (hfg : ∀ G vs xs, Reps K G H vs xs [] → Reps K G H (f vs) (g xs) []) : ∃ vs', Cont K H a vs' d ∧ vs'.length = (itemsD d).length ∧ SR K Gf N H (tmps (f vs') (g (shares (itemsD d))) ++ rs) ∧ (f vs').length = (g (shares (itemsD d))).length := by
  have h1 := h.share1
  have hc' : isCont (share d) = true := by cases d <;> simp_all [share, isCont]
  obtain ⟨n, F, nd, r, q⟩ := h1
  cases r with
  | cons y r =>
    rename_i Fy F2
    have e := y.sharedF (share_share d)
    subst e
    obtain ⟨a', vs', F0, F1, e', eF, c, qq, _, mk⟩ := y.cont hid_le hc'
    have e0 : F1 = [] := (List.append_eq_nil_iff.mp eF.symm).2
    subst e0
    rw [ev] at e'
    cases e'
    have ei : itemsD (share d) = shares (itemsD d) := by cases d <;> simp [share, itemsD, shares]
    rw [ei] at qq
    refine ⟨vs', ?_, by rw [qq.length, shares_len], ⟨n, [] ++ F2, nd, (reps_tmps (hfg _ _ _ qq)).append r, q⟩, (hfg _ _ _ qq).length⟩
    cases d with
    | lst f xs => rw [share_lst] at c; exact ⟨c.1, fun z => c.2 (sh_frz z)⟩
    | tup xs => rw [share_tup] at c; exact c
    | obj o cc ns xs => simp only [share] at c; exact c
    | _ => cases hc
theorem snd_B (op : BOp) : Op2 K (rB K op) (binD op) := by
  intro Gf N rs v w dv dw d H Q h e q
  cases op with
  | add =>
    cases dv <;> cases dw <;> simp only [binD, reduceCtorEq] at e
    · rename_i i j
      cases e
      exact .inl ⟨i, j, h.swap2.isInt, h.isInt, q _ _ (h.drop.drop.flat (.int _))⟩
    · rename_i xs ys
      split at e
      · rename_i hc
        cases e
        obtain ⟨a, vs, ea, ca, la, h1⟩ := h.swap2.items1 rfl
        obtain ⟨b, ws, eb, cb, lb, h2⟩ := (h1.toFront).items1 rfl
        have la' : vs.length = xs.length := la
        have lb' : ws.length = ys.length := lb
        have hh : SR K Gf N H (tmps (vs ++ ws) (shares xs ++ shares ys) ++ rs) := by
          rw [tmps_append (by rw [la']; exact (shares_len xs).symm)]
          exact h2.perm (by rw [← List.append_assoc]; exact (List.perm_append_comm).append_right _)
        have ll : (vs ++ ws).length = (shares xs ++ shares ys).length := dbl_len (by rw [la', shares_len]) (by rw [lb', shares_len])
        refine .inr (.inr ⟨a, b, vs, ws, ea, eb, ca, cb, by rw [la', lb', sizeLine_eq]; exact hc, fun ez => ?_, fun _ ez => ?_, fun _ _ p hp => q _ _ (hh.newT ll hp)⟩)
        · -- () + ys is ys
          have ex : xs = [] := List.eq_nil_of_length_eq_zero (by rw [← la', ez]; rfl)
          have := h.share1
          rw [share_tup] at this
          subst ex
          rw [← eb]
          exact q _ _ (by simpa [shares] using this.dropMid)
        · have ex : ys = [] := List.eq_nil_of_length_eq_zero (by rw [← lb', ez]; rfl)
          have := h.swap2.share1
          rw [share_tup] at this
          subst ex
          rw [← ea]
          exact q _ _ (by simpa [shares] using this.dropMid)
      · cases e
    · rename_i f xs g ys
      split at e
      · rename_i hc
        cases e
        obtain ⟨a, b, vs, ws, ea, eb, ca, cb, la, lb, hh⟩ := h.items2
        refine .inr (.inl ⟨a, b, vs, ws, ea, eb, ca.2 hc.1, cb.2 hc.2.1, by rw [la, lb, sizeLine_eq]; exact hc.2.2, fun p hp => q _ _ (hh.newL ?_ hp)⟩)
        simp [la, lb, shares_len]
      · cases e
  | sub =>
    cases dv <;> cases dw <;> simp only [binD, reduceCtorEq] at e
    rename_i i j
    cases e
    exact ⟨i, j, h.swap2.isInt, h.isInt, q _ _ (h.drop.drop.flat (.int _))⟩
  | mul =>
    cases dv <;> cases dw <;> simp only [binD, reduceCtorEq] at e
    · rename_i i j
      split at e
      · rename_i hc
        cases e
        exact .inl ⟨i, j, h.swap2.isInt, h.isInt, mulOk_ok hc, q _ _ (h.drop.drop.flat (.int _))⟩
      · cases e
    · rename_i xs k
      split at e
      · rename_i hc
        cases e
        have hk := h.isInt
        obtain ⟨a, vs, ea, ca, la⟩ := h.drop.contV rfl
        obtain ⟨vs', ca', lv, hh, ll⟩ := h.drop.itemsRep rfl ea ca (fun l => (List.replicate k.toNat l).flatten) (fun l => (List.replicate k.toNat l).flatten) fun G vs xs r => rep_flat k.toNat r
        have la' : vs'.length = xs.length := lv
        refine .inr (.inr ⟨a, k, vs', ea, hk, ca', fun z => hc.1 (List.eq_nil_of_length_eq_zero (by rw [← la', z]; rfl)), hc.2.1, hc.2.2.1, by rw [la']; exact hc.2.2.2, fun ek => ?_, fun _ p hp => q _ _ (hh.newT ll hp)⟩)
        subst ek
        have := h.drop.share1
        rw [share_tup, ea] at this
        exact q _ _ (by simpa using this)
      · cases e
    · rename_i f xs k
      split at e
      · rename_i hc
        cases e
        have hk := h.isInt
        obtain ⟨a, vs, ea, ca, la⟩ := h.drop.contV rfl
        obtain ⟨vs', ca', lv, hh, ll⟩ := h.drop.itemsRep rfl ea ca (fun l => (List.replicate k.toNat l).flatten) (fun l => (List.replicate k.toNat l).flatten) fun G vs xs r => rep_flat k.toNat r
        have hl := ca'.2 hc.1
        have h0 := ca.2 hc.1
        have hvv : vs' = vs := HO.lst.inj (Option.some.inj (hl.symm.trans h0))
        have la' : vs'.length = xs.length := by rw [hvv]; exact la
        exact .inr (.inl ⟨a, k, vs', ea, hk, hl, hc.2.1, hc.2.2.1, by rw [la', sizeLine_eq]; exact hc.2.2.2, fun p hp => q _ _ (hh.newL ll hp)⟩)
      · cases e
  | fdiv =>
    cases dv <;> cases dw <;> simp only [binD, reduceCtorEq] at e
    rename_i i j
    split at e
    · rename_i hc
      cases e
      refine ⟨i, j, h.swap2.isInt, h.isInt, ⟨by omega, hc.2⟩, ?_⟩
      show Q (.int (i.fdiv j)) H
      rw [Int.fdiv_eq_ediv_of_nonneg i (b := j) (by omega)]
      exact q _ _ (h.drop.drop.flat (.int _))
    · split at e
      · rename_i hc
        cases e
        exact ⟨i, j, h.swap2.isInt, h.isInt, ⟨by omega, hc.2⟩, q _ _ (h.drop.drop.flat (.int _))⟩
      · cases e
  | mod =>
    cases dv <;> cases dw <;> simp only [binD, reduceCtorEq] at e
    rename_i i j
    split at e
    · rename_i hc
      cases e
      exact ⟨i, j, h.swap2.isInt, h.isInt, hc, q _ _ (h.drop.drop.flat (.int _))⟩
    · cases e
  | pow =>
    cases dv <;> cases dw <;> simp only [binD, reduceCtorEq] at e
    rename_i i j
    split at e
    · rename_i hc
      cases e
      exact ⟨i, j, h.swap2.isInt, h.isInt, hc, q _ _ (h.drop.drop.flat (.int _))⟩
    · cases e
/-! ### == and its like -/
mutual
theorem Rep.dp : ∀ {v : V} {d : D} {F : List Addr} {p : PyData}, Rep K G H v d F → Le G H → toP d = some p → Dp K H v p
  | _, _, _, _, .non, _, e => by simp [toP] at e; subst e; exact .non
  | _, _, _, _, .bl b, _, e => by simp [toP] at e; subst e; exact .bl b
  | _, _, _, _, .int i, _, e => by simp [toP] at e; subst e; exact .int i
  | _, _, _, _, .str x, _, e => by simp [toP] at e; subst e; exact .str x
  | _, _, _, _, .hole v, _, e => by simp [toP] at e
  | _, _, _, _, .dic _, _, e => by simp [toP] at e
  | _, _, _, _, .any v, _, e => by simp [toP] at e
  | _, _, _, _, .tup s r, g, e => by
    simp only [toP, Option.map_eq_some_iff] at e
    obtain ⟨ps, e1, e2⟩ := e
    subst e2
    exact .tup (SqT.le s g) (Reps.dp r g e1)
  | _, _, _, _, .lstF s r, g, e => by
    simp only [toP, Option.map_eq_some_iff] at e
    obtain ⟨ps, e1, e2⟩ := e
    subst e2
    exact .lst (SqL.le s g) (Reps.dp r g e1)
  | _, _, _, _, .lstS s r, g, e => by
    simp only [toP, Option.map_eq_some_iff] at e
    obtain ⟨ps, e1, e2⟩ := e
    subst e2
    exact .lst (.inl (.inl (g _ _ s))) (Reps.dp r g e1)
  | _, _, _, _, .lstO s r, g, e => by
    simp only [toP, Option.map_eq_some_iff] at e
    obtain ⟨ps, e1, e2⟩ := e
    subst e2
    exact .lst (.inl (.inl s)) (Reps.dp r g e1)
  | _, _, _, _, .objS s l r, _, e => by simp [toP] at e
  | _, _, _, _, .objO s l r, _, e => by simp [toP] at e
theorem Reps.dp : ∀ {vs : List V} {ds : List D} {F : List Addr} {ps : List PyData}, Reps K G H vs ds F → Le G H → toP.toPs ds = some ps → DpAll K H vs ps
  | _, _, _, _, .nil, _, e => by simp [toP.toPs] at e; subst e; exact .nil
  | _, _, _, _, .cons r t, g, e => by
    simp only [toP.toPs, Option.bind_eq_some_iff, Option.map_eq_some_iff] at e
    obtain ⟨p, e1, ps, e2, e3⟩ := e
    subst e3
    exact .cons (Rep.dp r g e1) (Reps.dp t g e2)
end
def Cmp2 (K : PySem.W.Frag) (r : R2) (f : D → D → Option Bool) : Prop := ∀ {Gf : Hp} {N : List Addr} {rs : List Root} {v w : V} {dv dw : D} {b : Bool} {H : Hp} {Q : VK},
  SR K Gf N H (tmp w dw :: tmp v dv :: rs) → f dv dw = some b → Q (.bl b) H → r v w H Q
theorem eqD_some {a b : D} {r : Bool} (h : eqD a b = some r) : ∃ x y, toP a = some x ∧ toP b = some y ∧ SeqAt.shaped x = true ∧ SeqAt.shaped y = true ∧ PyData.eqv x y = r := by
  unfold eqD at h
  split at h
  · rename_i x y e1 e2
    split at h
    · rename_i hc
      rw [Bool.and_eq_true] at hc
      exact ⟨x, y, e1, e2, hc.1, hc.2, Option.some.inj h⟩
    · cases h
  · cases h
theorem snd_eq : Cmp2 K (rEqD K) eqD := by
  intro Gf N rs v w dv dw b H Q h e q
  obtain ⟨x, y, e1, e2, s1, s2, rfl⟩ := eqD_some e
  obtain ⟨G, F, g, r⟩ := h.head
  obtain ⟨G', F', g', r'⟩ := h.swap2.head
  exact ⟨x, y, r'.dp g' e1, r.dp g e2, s1, s2, q⟩
theorem snd_ne : Cmp2 K (rNeD K) (fun a b => (eqD a b).map (!·)) := by
  intro Gf N rs v w dv dw b H Q h e q
  obtain ⟨c, e0, rfl⟩ := Option.map_eq_some_iff.mp e
  obtain ⟨x, y, e1, e2, s1, s2, rfl⟩ := eqD_some e0
  obtain ⟨G, F, g, r⟩ := h.head
  obtain ⟨G', F', g', r'⟩ := h.swap2.head
  exact ⟨x, y, r'.dp g' e1, r.dp g e2, s1, s2, q⟩
theorem flat_V {F : List Addr} (r : Rep K G H v d F) (f : flatD d = true) : flatV v = true := by
  cases r <;> first | rfl | cases f
theorem flat_all : ∀ {vs : List V} {ds : List D} {F : List Addr}, Reps K G H vs ds F → ds.all flatD = true → vs.all flatV = true
  | _, _, _, .nil, _ => rfl
  | _, _, _, .cons r t, f => by
    rw [List.all_cons, Bool.and_eq_true] at f ⊢
    exact ⟨flat_V r f.1, flat_all t f.2⟩
theorem eqV_eqD {F F' : List Addr} {b : Bool} {x y : V} {dx dy : D} (rx : Rep K G H x dx F) (ry : Rep K G' H' y dy F') (fx : flatD dx = true) (fy : flatD dy = true) (e : eqD dy dx = some b) : eqV y x = b := by
  obtain ⟨p, q, e1, e2, _, _, rfl⟩ := eqD_some e
  cases rx <;> cases ry <;> first
    | (cases fx; done)
    | (cases fy; done)
    | (simp [toP] at e1 e2; subst e1 e2; simp [eqV, PyData.eqv])
theorem memD_in {F : List Addr} {x : V} {dx : D} (rx : Rep K G H x dx F) (fx : flatD dx = true) : ∀ {vs : List V} {ds : List D} {F' : List Addr} {b : Bool}, Reps K G' H' vs ds F' → ds.all flatD = true → memD dx ds = some b → inV x vs = b
  | _, _, _, _, .nil, _, e => by simp [memD] at e; subst e; rfl
  | _, _, _, b, .cons r t, f, e => by
    rw [List.all_cons, Bool.and_eq_true] at f
    unfold memD at e
    obtain ⟨c, e1, e2⟩ := Option.bind_eq_some_iff.mp e
    have hq := eqV_eqD rx r fx f.1 e1
    unfold inV
    rw [List.any_cons, hq]
    cases c with
    | true => simp at e2; subst e2; simp
    | false =>
      simp at e2
      rw [Bool.false_or]
      exact memD_in rx fx t f.2 e2
def memR (neg : Bool) (a b : D) : Option Bool := match b with
  | .lst _ ys => if flatD a = true ∧ ys.all flatD = true then (memD a ys).map (fun c => if neg then !c else c) else none
  | .tup ys => if flatD a = true ∧ ys.all flatD = true then (memD a ys).map (fun c => if neg then !c else c) else none
  | _ => none
theorem snd_mem (neg : Bool) : Cmp2 K (rIn K neg) (memR neg) := by
  intro Gf N rs v w dv dw b H Q h e q
  obtain ⟨G, F, g, r⟩ := h.head
  obtain ⟨G', F', g', r'⟩ := h.swap2.head
  unfold memR at e
  split at e
  · split at e
    · rename_i f ys hc
      obtain ⟨c, e1, e2⟩ := Option.map_eq_some_iff.mp e
      obtain ⟨a, vs, F0, F1, ev, _, ct, qq, _⟩ := r.cont g rfl
      refine ⟨a, vs, ev, .inl ct.1, flat_V r' hc.1, flat_all qq hc.2, ?_⟩
      rw [memD_in r' hc.1 qq hc.2 e1, e2]; exact q
    · cases e
  · split at e
    · rename_i ys hc
      obtain ⟨c, e1, e2⟩ := Option.map_eq_some_iff.mp e
      obtain ⟨a, vs, F0, F1, ev, _, ct, qq, _⟩ := r.cont g rfl
      refine ⟨a, vs, ev, .inr ct, flat_V r' hc.1, flat_all qq hc.2, ?_⟩
      rw [memD_in r' hc.1 qq hc.2 e1, e2]; exact q
    · cases e
  · cases e
theorem memP_some {x : D} {ys : List D} {b : Bool} (h : memP x ys = some b) : ∃ p ds, toP x = some p ∧ toP.toPs ys = some ds ∧ SeqAt.shaped p = true ∧ SeqAt.shaped (.list ds) = true ∧ (ds.any fun z => PyData.eqv z p) = b := by
  unfold memP at h
  split at h
  · split at h
    · rename_i p ds e1 e2 hc
      cases h
      rw [Bool.and_eq_true] at hc
      exact ⟨p, ds, e1, e2, hc.1, hc.2, rfl⟩
    · cases h
  · cases h
theorem snd_memP {f : Fl} {ys : List D} {v w : V} {dv : D} {b : Bool} {Q : VK} (h : SR K Gf N H (tmp w (.lst f ys) :: tmp v dv :: rs)) (e : memP dv ys = some b) : ∃ p ds, Dp K H v p ∧ Dp K H w (.list ds) ∧ SeqAt.shaped p = true ∧ SeqAt.shaped (.list ds) = true ∧ (ds.any fun z => PyData.eqv z p) = b := by
  obtain ⟨G, F, g, r⟩ := h.head
  obtain ⟨G', F', g', r'⟩ := h.swap2.head
  obtain ⟨p, ds, e1, e2, s1, s2, e3⟩ := memP_some e
  exact ⟨p, ds, r'.dp g' e1, r.dp g (by simp [toP, e2]), s1, s2, e3⟩
def rC (K : PySem.W.Frag) : COp → R2
  | .eq => rEqD K
  | .ne => rNeD K
  | .lt => rI0 fun i j => .bl (decide (i < j))
  | .le => ror (rI0 fun i j => .bl (decide (i ≤ j))) (rLeT K)
  | .gt => rI0 fun i j => .bl (decide (j < i))
  | .ge => rI0 fun i j => .bl (decide (j ≤ i))
  | .isN => ror (fun x y H Q => y = .non ∧ Q (.bl (decide (x = .non))) H) (fun x y H Q => ∃ a b, x = .bl a ∧ y = .bl b ∧ Q (.bl (decide (a = b))) H)
  | .notN => ror (fun x y H Q => y = .non ∧ Q (.bl (!decide (x = .non))) H) (fun x y H Q => ∃ a b, x = .bl a ∧ y = .bl b ∧ Q (.bl (!decide (a = b))) H)
  | .mem => ror (rIn K false) (rInD K)
  | .nomem => ror (rIn K true) (rNotInD K)
def astC : COp → CmpOp
  | .eq => .Eq
  | .ne => .NotEq
  | .lt => .Lt
  | .le => .LtE
  | .gt => .Gt
  | .ge => .GtE
  | .isN => .Is
  | .notN => .IsNot
  | .mem => .In
  | .nomem => .NotIn
theorem opr_C {X : Cx} (hu' : X.A.units + 65 < cLine) (op : COp) : OpR X (compareOp (astC op)) (rC X.K op) := by
  have hu : X.A.units + 64 < cLine := by omega
  cases op with
  | eq => exact op_eqD hu
  | ne => exact op_neD hu
  | lt => exact op_lt
  | le => exact .or op_le (op_leT (by omega))
  | gt => exact op_gt
  | ge => exact op_ge
  | isN => exact .or op_isN op_is_bl
  | notN => exact .or op_notN op_isnot_bl
  | mem => exact .or op_in_seq (op_inD hu')
  | nomem => exact .or op_notIn_seq (op_notInD hu')
theorem ints_reps0 : ∀ {vs : List V} {ds : List D} {F : List Addr} {ns : List Int}, Reps K G H vs ds F → intsD ds = some ns → vs = ns.map V.int
  | _, _, _, _, .nil, e => by simp [intsD] at e; subst e; rfl
  | _, _, _, _, .cons r t, e => by
    cases r <;> simp only [intsD, reduceCtorEq] at e
    obtain ⟨ms, e1, rfl⟩ := Option.map_eq_some_iff.mp e
    rw [ints_reps0 t e1]; rfl
theorem snd_C (op : COp) : Cmp2 K (rC K op) (cmpD op) := by
  intro Gf N rs v w dv dw b H Q h e q
  cases op with
  | eq => exact snd_eq h (by simpa [cmpD] using e) q
  | ne => exact snd_ne h (by simpa [cmpD] using e) q
  | lt =>
    cases dv <;> cases dw <;> simp only [cmpD, reduceCtorEq] at e
    cases e
    exact ⟨_, _, h.swap2.isInt, h.isInt, q⟩
  | le =>
    cases dv <;> cases dw <;> simp only [cmpD, reduceCtorEq] at e
    · cases e
      exact .inl ⟨_, _, h.swap2.isInt, h.isInt, q⟩
    · rename_i xs ys
      obtain ⟨G, F, g, r⟩ := h.head
      obtain ⟨G', F', g', r'⟩ := h.swap2.head
      obtain ⟨ns, e1, e2⟩ := Option.bind_eq_some_iff.mp e
      obtain ⟨ms, e3, e4⟩ := Option.map_eq_some_iff.mp e2
      subst e4
      cases r with
      | tup s1 q1 =>
        cases r' with
        | tup s2 q2 =>
          cases ints_reps0 q1 e3
          cases ints_reps0 q2 e1
          exact .inr ⟨_, _, ns, ms, rfl, rfl, SqT.le s2 g', SqT.le s1 g, q⟩
  | gt =>
    cases dv <;> cases dw <;> simp only [cmpD, reduceCtorEq] at e
    cases e
    exact ⟨_, _, h.swap2.isInt, h.isInt, q⟩
  | ge =>
    cases dv <;> cases dw <;> simp only [cmpD, reduceCtorEq] at e
    cases e
    exact ⟨_, _, h.swap2.isInt, h.isInt, q⟩
  | isN =>
    cases dw <;> simp only [cmpD, reduceCtorEq] at e
    · refine .inl ⟨h.isNon, ?_⟩
      obtain ⟨G', F', g', r'⟩ := h.swap2.head
      cases r' <;> first | (simp [cmpD] at e; done) | (simp [cmpD] at e; subst e; simpa using q)
    · cases dv <;> simp only [cmpD, reduceCtorEq] at e
      cases e
      exact .inr ⟨_, _, h.swap2.isBl, h.isBl, q⟩
  | notN =>
    cases dw <;> simp only [cmpD, reduceCtorEq] at e
    · refine .inl ⟨h.isNon, ?_⟩
      obtain ⟨G', F', g', r'⟩ := h.swap2.head
      cases r' <;> first | (simp [cmpD] at e; done) | (simp [cmpD] at e; subst e; simpa using q)
    · cases dv <;> simp only [cmpD, reduceCtorEq] at e
      cases e
      exact .inr ⟨_, _, h.swap2.isBl, h.isBl, q⟩
  | mem =>
    cases dw with
    | tup ys =>
      refine .inl (snd_mem false h ?_ q)
      simp only [cmpD] at e
      unfold memR
      simp only
      split at e
      · rename_i hc; rw [if_pos hc, e]; rfl
      · cases e
    | lst f ys =>
      simp only [cmpD] at e
      split at e
      · rename_i hc
        refine .inl (snd_mem false h ?_ q)
        unfold memR
        simp only
        rw [if_pos hc, e]; rfl
      · obtain ⟨p, ds, d1, d2, s1, s2, e3⟩ := snd_memP (Q := Q) h e
        exact .inr ⟨p, ds, d1, d2, s1, s2, by rw [e3]; exact q⟩
    | _ => cases dv <;> simp [cmpD] at e
  | nomem =>
    cases dw with
    | tup ys =>
      refine .inl (snd_mem true h ?_ q)
      simp only [cmpD] at e
      unfold memR
      simp only
      split at e
      · rename_i hc; rw [if_pos hc]; exact e
      · cases e
    | lst f ys =>
      simp only [cmpD] at e
      split at e
      · rename_i hc
        refine .inl (snd_mem true h ?_ q)
        unfold memR
        simp only
        rw [if_pos hc]; exact e
      · obtain ⟨c, e1, e2⟩ := Option.map_eq_some_iff.mp e
        obtain ⟨p, ds, d1, d2, s1, s2, e3⟩ := snd_memP (Q := Q) h e1
        exact .inr ⟨p, ds, d1, d2, s1, s2, by rw [e3, e2]; exact q⟩
    | _ => cases dv <;> simp [cmpD] at e
end
end FL

/-! F6: subscripts, slices, built-ins, isinstance, fields, by values. -/
namespace FL
open PySem PySem.Spec PyProof.Rows L2
section
variable {K : PySem.W.Frag} {G H G' H' Gf : Hp} {N : List Addr} {rs rs' ts : List Root} {v w : V} {d e : D}
theorem atI_of {α : Type} {xs : List α} {i : Int} {x : α} (h : atI xs i = some x) : ∃ j, ixN xs.length i = some j ∧ xs[j]? = some x := by
  unfold atI at h
  exact Option.bind_eq_some_iff.mp h
theorem atI_mk {α : Type} {xs : List α} {n : Nat} {i : Int} {j : Nat} {x : α} (hn : xs.length = n) (h : ixN n i = some j) (e : xs[j]? = some x) : atI xs i = some x := by
  unfold atI
  rw [hn, h]; exact e
theorem ixr_or {X : Cx} {r r' : R2} (h : IxR X r) (h' : IxR X r') : IxR X (ror r r') := fun a b pins s σ H x y v u Q I rx ry q z => q.elim (fun q => h a b pins s σ H x y v u Q I rx ry q z) (fun q => h' a b pins s σ H x y v u Q I rx ry q z)
def rX (K : PySem.W.Frag) : R2 := ror (rIxL K) (rIxT K)
theorem ixr_X {X : Cx} : IxR X (rX X.K) := ixr_or ix_list ix_tup
theorem snd_X : Op2 K (rX K) idxD := by
  intro Gf N rs v w dv dw d H Q h e q
  cases dw <;> cases dv <;> simp only [idxD, reduceCtorEq] at e
  · rename_i i xs
    obtain ⟨x, e1, rfl⟩ := Option.map_eq_some_iff.mp e
    obtain ⟨j, e2, e3⟩ := atI_of e1
    obtain ⟨a, vs, ev, c, l, f⟩ := h.drop.pick rfl
    obtain ⟨u, eu, hh⟩ := f j x e3
    exact .inr ⟨a, vs, i, u, ev, h.isInt, c, atI_mk l e2 eu, q _ _ hh.dropMid⟩
  · rename_i i f xs
    obtain ⟨x, e1, rfl⟩ := Option.map_eq_some_iff.mp e
    obtain ⟨j, e2, e3⟩ := atI_of e1
    obtain ⟨a, vs, ev, c, l, f⟩ := h.drop.pick rfl
    obtain ⟨u, eu, hh⟩ := f j x e3
    exact .inl ⟨a, vs, i, u, ev, h.isInt, c.1, atI_mk l e2 eu, q _ _ hh.dropMid⟩
/-- x[i] of a slot that keeps its container -/
theorem snd_XV {dv dw d dv' : D} {Q : VK} (h : SR K Gf N H (tmp w dw :: tmp v dv :: rs)) (e : idvD dv dw = some (d, dv')) (q : ∀ u, SR K Gf N H (tmp u d :: tmp v dv' :: rs) → Q u H) : rX K v w H Q := by
  cases dw <;> cases dv <;> simp only [idvD, reduceCtorEq] at e
  · rename_i i xs
    obtain ⟨j, e2, e1⟩ := Option.bind_eq_some_iff.mp e
    obtain ⟨x, e3, e4⟩ := Option.map_eq_some_iff.mp e1
    cases e4
    obtain ⟨a, vs, ev, c, l, f⟩ := h.drop.pick rfl
    obtain ⟨u, eu, hh⟩ := f j x e3
    exact .inr ⟨a, vs, i, u, ev, h.isInt, c, atI_mk l e2 eu, q _ hh⟩
  · rename_i i f xs
    obtain ⟨j, e2, e1⟩ := Option.bind_eq_some_iff.mp e
    obtain ⟨x, e3, e4⟩ := Option.map_eq_some_iff.mp e1
    cases e4
    obtain ⟨a, vs, ev, c, l, f⟩ := h.drop.pick rfl
    obtain ⟨u, eu, hh⟩ := f j x e3
    exact .inl ⟨a, vs, i, u, ev, h.isInt, c.1, atI_mk l e2 eu, q _ hh⟩
theorem snd_slc {dv d : D} {lo hi : Option Int} {Q : VK} (h : SR K Gf N H (tmp v dv :: rs)) (e : slcD dv lo hi = some d) (q : ∀ u H', SR K Gf N H' (tmp u d :: rs) → Q u H') : rSlL K v lo hi H Q := by
  cases dv <;> simp only [slcD, reduceCtorEq] at e
  rename_i f xs
  cases e
  obtain ⟨a, vs, ea, ca, la⟩ := h.contV rfl
  have hc := la
  obtain ⟨vs', ca', lv, hh, ll⟩ := h.itemsRep rfl ea ca (fun l => cutV l lo hi) (fun l => cutD l lo hi) fun G vs xs r => by
    unfold cutV cutD
    rw [r.length]
    exact (r.drop0 _).take0 _
  exact ⟨a, vs', ea, ca'.1, fun p hp => q _ _ (hh.newL ll hp)⟩
/-! ### built-ins -/
abbrev RC1 := List V → Hp → VK → Prop
def cor (r r' : RC1) : RC1 := fun xs H Q => r xs H Q ∨ r' xs H Q
theorem CallR.or {X : Cx} {f : Value} {r r' : RC1} (h : CallR X f r) (h' : CallR X f r') : CallR X f (cor r r') := fun pins s σ H xs us Q I rv q => q.elim (h pins s σ H xs us Q I rv) (h' pins s σ H xs us Q I rv)
def rBl (K : PySem.W.Frag) : Blt → RC1
  | .len => fun xs H Q => ∃ p ys, xs = [.ref p] ∧ (SqL K H p ys ∨ SqT K H p ys) ∧ Q (.int ys.length) H
  | .int => fun xs H Q => (∃ i, xs = [.int i] ∧ Q (.int i) H) ∨ ∃ k, xs = [.bl k] ∧ Q (.int (if k then 1 else 0)) H
  | .list => fun xs H Q => ∃ p ys, xs = [.ref p] ∧ (SqL K H p ys ∨ SqT K H p ys) ∧ ∀ l, H l = none → Q (.ref l) (upd H l (.lst ys))
  | .tuple => fun xs H Q => ∃ p ys, xs = [.ref p] ∧ ((SqL K H p ys ∧ ∀ l, H l = none → Q (.ref l) (upd H l (.tup ys))) ∨ (SqT K H p ys ∧ Q (.ref p) H))
  | .sum => rSum K
  | .abs => fun xs H Q => ∃ i, xs = [.int i] ∧ Q (.int (if i < 0 then -i else i)) H
  | .min2 => fun xs H Q => ∃ i j, xs = [.int i, .int j] ∧ Q (.int (if j < i then j else i)) H
  | .max2 => fun xs H Q => ∃ i j, xs = [.int i, .int j] ∧ Q (.int (if j > i then j else i)) H
  | .all => rAll K
  | .any => rAny K
  | .min1 => rMin K
  | .max1 => rMax K
def bltN : Blt → Str
  | .len => "len"
  | .int => "int"
  | .list => "list"
  | .tuple => "tuple"
  | .sum => "sum"
  | .abs => "abs"
  | .min2 => "min"
  | .max2 => "max"
  | .all => "all"
  | .any => "any"
  | .min1 => "min"
  | .max1 => "max"
def bltV : Blt → Value
  | .len => .builtin "len"
  | .int => .type "int"
  | .list => .type "list"
  | .tuple => .type "tuple"
  | .sum => .builtin "sum"
  | .abs => .builtin "abs"
  | .min2 => .builtin "min"
  | .max2 => .builtin "max"
  | .all => .builtin "all"
  | .any => .builtin "any"
  | .min1 => .builtin "min"
  | .max1 => .builtin "max"
theorem blt_boot (b : Blt) : bootBuiltins (bltN b) = some (bltV b) := by cases b <;> decide +kernel
theorem callr_B {X : Cx} (hc : X.calm = true) (b : Blt) : CallR X (bltV b) (rBl X.K b) := by
  cases b with
  | len => exact call_len_seq
  | int => exact call_int1
  | list => exact call_list_of
  | tuple => exact call_tuple_of
  | sum => exact cr_sum hc
  | abs => exact call_abs
  | min2 => exact call_min2 hc
  | max2 => exact call_max2 hc
  | all => exact cr_all hc
  | any => exact cr_any hc
  | min1 => exact cr_min hc
  | max1 => exact cr_max hc
theorem ints_reps : ∀ {vs : List V} {ds : List D} {F : List Addr} {ns : List Int}, Reps K G H vs ds F → intsD ds = some ns → vs = ns.map V.int
  | _, _, _, _, .nil, e => by simp [intsD] at e; subst e; rfl
  | _, _, _, _, .cons r t, e => by
    cases r <;> simp only [intsD, reduceCtorEq] at e
    obtain ⟨ms, e1, rfl⟩ := Option.map_eq_some_iff.mp e
    rw [ints_reps t e1]; rfl
theorem bools_reps : ∀ {vs : List V} {ds : List D} {F : List Addr} {bs : List Bool}, Reps K G H vs ds F → boolsD ds = some bs → vs = bs.map V.bl
  | _, _, _, _, .nil, e => by simp [boolsD] at e; subst e; rfl
  | _, _, _, _, .cons r t, e => by
    cases r <;> simp only [boolsD, reduceCtorEq] at e
    obtain ⟨ms, e1, rfl⟩ := Option.map_eq_some_iff.mp e
    rw [bools_reps t e1]; rfl
/-- a call by values: the arguments' roots are given up -/
def CallS (K : PySem.W.Frag) (r : RC1) (f : List D → Option D) : Prop := ∀ {Gf : Hp} {N : List Addr} {rs : List Root} {vs : List V} {ds : List D} {d : D} {H : Hp} {Q : VK},
  SR K Gf N H (tmps vs ds ++ rs) → vs.length = ds.length → f ds = some d → (∀ u H', SR K Gf N H' (tmp u d :: rs) → Q u H') → r vs H Q
theorem d1_some {f : D → Option D} {ds : List D} {d : D} (h : d1 f ds = some d) : ∃ x, ds = [x] ∧ f x = some d := by
  unfold d1 at h
  split at h
  · exact ⟨_, rfl, h⟩
  · cases h
theorem d2_some {f : D → D → Option D} {ds : List D} {d : D} (h : d2 f ds = some d) : ∃ x y, ds = [x, y] ∧ f x y = some d := by
  unfold d2 at h
  split at h
  · exact ⟨_, _, rfl, h⟩
  · cases h
theorem one_arg {vs : List V} {x : D} (h : SR K Gf N H (tmps vs [x] ++ rs)) (hl : vs.length = [x].length) : ∃ v, vs = [v] ∧ SR K Gf N H (tmp v x :: rs) := by
  match vs, hl, h with
  | [v], _, h => exact ⟨v, rfl, h⟩
theorem two_arg {vs : List V} {x y : D} (h : SR K Gf N H (tmps vs [x, y] ++ rs)) (hl : vs.length = [x, y].length) : ∃ v w, vs = [v, w] ∧ SR K Gf N H (tmp v x :: tmp w y :: rs) := by
  match vs, hl, h with
  | [v, w], _, h => exact ⟨v, w, rfl, h⟩
theorem maxI_eq : ∀ (ns : List Int) (m : Int), m ∈ ns → (∀ y, y ∈ ns → y ≤ m) → maxI ns = m
  | [], _, h, _ => by cases h
  | [a], m, h, _ => by simp only [List.mem_singleton] at h; rw [h]; rfl
  | a :: b :: t, m, h, g => by
    have ga := g a (List.mem_cons_self ..)
    simp only [maxI]
    by_cases hm : m ∈ b :: t
    · rw [maxI_eq (b :: t) m hm fun y hy => g y (List.mem_cons_of_mem _ hy)]; omega
    · rcases List.mem_cons.mp h with rfl | h2
      · have : maxI (b :: t) ≤ m := by
          have hmem : ∀ (l : List Int), l ≠ [] → maxI l ∈ l := by
            intro l
            induction l with
            | nil => intro h; exact absurd rfl h
            | cons x l ih =>
              intro _
              cases l with
              | nil => simp [maxI]
              | cons y l =>
                have := ih (by simp)
                simp only [maxI]
                rcases Int.le_total x (maxI (y :: l)) with h | h
                · rw [Int.max_eq_right h]; exact List.mem_cons_of_mem _ this
                · rw [Int.max_eq_left h]; exact List.mem_cons_self ..
          exact g _ (List.mem_cons_of_mem _ (hmem (b :: t) (by simp)))
        omega
      · exact absurd h2 hm
theorem minI_eq : ∀ (ns : List Int) (m : Int), m ∈ ns → (∀ y, y ∈ ns → m ≤ y) → minI ns = m
  | [], _, h, _ => by cases h
  | [a], m, h, _ => by simp only [List.mem_singleton] at h; rw [h]; rfl
  | a :: b :: t, m, h, g => by
    have ga := g a (List.mem_cons_self ..)
    simp only [minI]
    by_cases hm : m ∈ b :: t
    · rw [minI_eq (b :: t) m hm fun y hy => g y (List.mem_cons_of_mem _ hy)]; omega
    · rcases List.mem_cons.mp h with rfl | h2
      · have : m ≤ minI (b :: t) := by
          have hmem : ∀ (l : List Int), l ≠ [] → minI l ∈ l := by
            intro l
            induction l with
            | nil => intro h; exact absurd rfl h
            | cons x l ih =>
              intro _
              cases l with
              | nil => simp [minI]
              | cons y l =>
                have := ih (by simp)
                simp only [minI]
                rcases Int.le_total x (minI (y :: l)) with h | h
                · rw [Int.min_eq_left h]; exact List.mem_cons_self ..
                · rw [Int.min_eq_right h]; exact List.mem_cons_of_mem _ this
          exact g _ (List.mem_cons_of_mem _ (hmem (b :: t) (by simp)))
        omega
      · exact absurd h2 hm
theorem snd_Bl (b : Blt) : CallS K (rBl K b) (bltD b) := by
  intro Gf N rs vs ds d H Q h hl e q
  cases b with
  | len =>
    obtain ⟨x, rfl, z⟩ := d1_some e
    clear e
    obtain ⟨v, rfl, h⟩ := one_arg h hl
    cases x <;> simp only [lenD, reduceCtorEq] at z <;> cases z
    · obtain ⟨a, ys, rfl, c, l⟩ := h.contV rfl
      refine ⟨a, ys, rfl, .inr c, ?_⟩
      rw [l]; exact q _ _ (h.drop.flat (.int _))
    · obtain ⟨a, ys, rfl, c, l⟩ := h.contV rfl
      refine ⟨a, ys, rfl, .inl c.1, ?_⟩
      rw [l]; exact q _ _ (h.drop.flat (.int _))
  | int =>
    obtain ⟨x, rfl, z⟩ := d1_some e
    clear e
    obtain ⟨v, rfl, h⟩ := one_arg h hl
    cases x <;> simp only [intD, reduceCtorEq] at z <;> cases z
    · exact .inr ⟨_, by rw [h.isBl], q _ _ (h.drop.flat (.int _))⟩
    · exact .inl ⟨_, by rw [h.isInt], q _ _ (h.drop.flat (.int _))⟩
  | list =>
    obtain ⟨x, rfl, z⟩ := d1_some e
    clear e
    obtain ⟨v, rfl, h⟩ := one_arg h hl
    cases x <;> simp only [listD, reduceCtorEq] at z <;> cases z
    · obtain ⟨a, ys, rfl, c, l, hh⟩ := h.items1 rfl
      exact ⟨a, ys, rfl, .inr c, fun p hp => q _ _ (hh.newL (by rw [l, shares_len]) hp)⟩
    · obtain ⟨a, ys, rfl, c, l, hh⟩ := h.items1 rfl
      exact ⟨a, ys, rfl, .inl c.1, fun p hp => q _ _ (hh.newL (by rw [l, shares_len]) hp)⟩
  | tuple =>
    obtain ⟨x, rfl, z⟩ := d1_some e
    clear e
    obtain ⟨v, rfl, h⟩ := one_arg h hl
    cases x <;> simp only [tupleD, reduceCtorEq] at z <;> cases z
    · obtain ⟨a, ys, rfl, c, l⟩ := h.contV rfl
      have := h.share1
      rw [share_tup] at this
      exact ⟨a, ys, rfl, .inr ⟨c, q _ _ this⟩⟩
    · obtain ⟨a, ys, rfl, c, l, hh⟩ := h.items1 rfl
      exact ⟨a, ys, rfl, .inl ⟨c.1, fun p hp => q _ _ (hh.newT (by rw [l, shares_len]) hp)⟩⟩
  | sum =>
    obtain ⟨x, rfl, z⟩ := d1_some e
    clear e
    obtain ⟨v, rfl, h⟩ := one_arg h hl
    cases x <;> simp only [sumD, reduceCtorEq] at z
    obtain ⟨ns, e1, rfl⟩ := Option.map_eq_some_iff.mp z
    obtain ⟨G, F, g, r⟩ := h.head
    obtain ⟨a, vs, F0, F1, ev, _, ct, qq, _⟩ := r.cont g rfl
    subst ev
    have := ints_reps qq e1
    subst this
    exact ⟨a, ns, rfl, ct.1, q _ _ (h.drop.flat (.int _))⟩
  | abs =>
    obtain ⟨x, rfl, z⟩ := d1_some e
    clear e
    obtain ⟨v, rfl, h⟩ := one_arg h hl
    cases x <;> simp only [absD, reduceCtorEq] at z <;> cases z
    exact ⟨_, by rw [h.isInt], q _ _ (h.drop.flat (.int _))⟩
  | min2 =>
    obtain ⟨x, y, rfl, z⟩ := d2_some e
    clear e
    obtain ⟨v, w, rfl, h⟩ := two_arg h hl
    cases x <;> cases y <;> simp only [min2D, reduceCtorEq] at z <;> cases z
    exact ⟨_, _, by rw [h.isInt, h.swap2.isInt], q _ _ (h.drop.drop.flat (.int _))⟩
  | max2 =>
    obtain ⟨x, y, rfl, z⟩ := d2_some e
    clear e
    obtain ⟨v, w, rfl, h⟩ := two_arg h hl
    cases x <;> cases y <;> simp only [max2D, reduceCtorEq] at z <;> cases z
    exact ⟨_, _, by rw [h.isInt, h.swap2.isInt], q _ _ (h.drop.drop.flat (.int _))⟩
  | all =>
    obtain ⟨x, rfl, z⟩ := d1_some e
    clear e
    obtain ⟨v, rfl, h⟩ := one_arg h hl
    cases x <;> simp only [allD, reduceCtorEq] at z
    obtain ⟨ns, e1, rfl⟩ := Option.map_eq_some_iff.mp z
    obtain ⟨G, F, g, r⟩ := h.head
    obtain ⟨a, vs, F0, F1, ev, _, ct, qq, _⟩ := r.cont g rfl
    subst ev
    have := bools_reps qq e1
    subst this
    exact ⟨a, ns, rfl, ct.1, q _ _ (h.drop.flat (.bl _))⟩
  | any =>
    obtain ⟨x, rfl, z⟩ := d1_some e
    clear e
    obtain ⟨v, rfl, h⟩ := one_arg h hl
    cases x <;> simp only [anyD, reduceCtorEq] at z
    obtain ⟨ns, e1, rfl⟩ := Option.map_eq_some_iff.mp z
    obtain ⟨G, F, g, r⟩ := h.head
    obtain ⟨a, vs, F0, F1, ev, _, ct, qq, _⟩ := r.cont g rfl
    subst ev
    have := bools_reps qq e1
    subst this
    exact ⟨a, ns, rfl, ct.1, q _ _ (h.drop.flat (.bl _))⟩
  | min1 =>
    obtain ⟨x, rfl, z⟩ := d1_some e
    clear e
    obtain ⟨v, rfl, h⟩ := one_arg h hl
    cases x <;> simp only [min1D, reduceCtorEq] at z
    obtain ⟨ns, e1, z⟩ := Option.bind_eq_some_iff.mp z
    split at z
    · cases z
    rename_i hne
    cases z
    obtain ⟨G, F, g, r⟩ := h.head
    obtain ⟨a, vs, F0, F1, ev, _, ct, qq, _⟩ := r.cont g rfl
    subst ev
    have := ints_reps qq e1
    subst this
    exact ⟨a, ns, rfl, ct.1, List.length_pos_iff.mpr hne, fun m h1 h2 => by rw [← minI_eq ns m h1 h2]; exact q _ _ (h.drop.flat (.int _))⟩
  | max1 =>
    obtain ⟨x, rfl, z⟩ := d1_some e
    clear e
    obtain ⟨v, rfl, h⟩ := one_arg h hl
    cases x <;> simp only [max1D, reduceCtorEq] at z
    obtain ⟨ns, e1, z⟩ := Option.bind_eq_some_iff.mp z
    split at z
    · cases z
    rename_i hne
    cases z
    obtain ⟨G, F, g, r⟩ := h.head
    obtain ⟨a, vs, F0, F1, ev, _, ct, qq, _⟩ := r.cont g rfl
    subst ev
    have := ints_reps qq e1
    subst this
    exact ⟨a, ns, rfl, ct.1, List.length_pos_iff.mpr hne, fun m h1 h2 => by rw [← maxI_eq ns m h1 h2]; exact q _ _ (h.drop.flat (.int _))⟩
/-! ### isinstance -/
def biNames : List String := ["int", "bool", "str", "list", "tuple", "dict"]
theorem kit_bi {a b : String} (ha : a ∈ ["NoneType", "bool", "int", "str", "tuple", "list", "dict"]) (hb : b ∈ biNames) : kitB a b = some (decide (a = b) || (decide (a = "bool") && decide (b = "int"))) := by
  simp only [biNames, List.mem_cons, List.not_mem_nil, or_false] at ha hb
  rcases ha with rfl | rfl | rfl | rfl | rfl | rfl | rfl <;> rcases hb with rfl | rfl | rfl | rfl | rfl | rfl <;> decide +kernel
theorem Rep.ty {F : List Addr} (r : Rep K G H v d F) (g : Le G H) (hd : ∀ o c ns xs, d ≠ .obj o c ns xs) (hh : ∀ u, d ≠ .hole u) (ha : d ≠ .any) : ∃ t, TyX K H v (.type t) ∧ t ∈ ["NoneType", "bool", "int", "str", "tuple", "list", "dict"] ∧
    ∀ n, isiD d (.bi n) = some (decide (t = n) || (decide (t = "bool") && decide (n = "int"))) := by
  cases r with
  | non => exact ⟨"NoneType", .base .non, by simp, fun n => by simp [isiD, eq_comm]⟩
  | bl b => exact ⟨"bool", .base (.bl b), by simp, fun n => by simp [isiD, eq_comm]⟩
  | int i => exact ⟨"int", .base (.int i), by simp, fun n => by simp [isiD, eq_comm]⟩
  | hole u => exact absurd rfl (hh _)
  | any u => exact absurd rfl ha
  | dic s => exact ⟨"dict", .base (.dK (g _ _ s)), by simp, fun n => by simp [isiD, eq_comm]⟩
  | str x => exact ⟨"str", .base (.str x), by simp, fun n => by simp [isiD, eq_comm]⟩
  | tup s q =>
    refine ⟨"tuple", ?_, by simp, fun n => by simp [isiD, eq_comm]⟩
    rcases SqT.le s g with (h | ⟨o, h⟩) | ⟨o, its, n, h, c, _⟩
    · exact .base (.tup h)
    · exact .fTuple h
    · exact .kTuple h c
  | lstF s q =>
    refine ⟨"list", ?_, by simp, fun n => by simp [isiD, eq_comm]⟩
    rcases SqL.le s g with (h | ⟨o, h⟩) | ⟨o, its, n, h, c, _⟩
    · exact .base (.lst h)
    · exact .base (.frz h)
    · exact .kList h c
  | lstS s q => exact ⟨"list", .base (.lst (g _ _ s)), by simp, fun n => by simp [isiD, eq_comm]⟩
  | lstO s q => exact ⟨"list", .base (.lst s), by simp, fun n => by simp [isiD, eq_comm]⟩
  | objS s l q => exact absurd rfl (hd _ _ _ _)
  | objO s l q => exact absurd rfl (hd _ _ _ _)
theorem snd_isi {n : String} {b : Bool} {Q : VK} (h : SR K Gf N H (tmp v d :: rs)) (hn : n ∈ biNames) (e : isiD d (.bi n) = some b) (q : Q (.bl b) H) : rIsi K [v, .ty n] H Q := by
  obtain ⟨G, F, g, r⟩ := h.head
  have hd : ∀ o c ns xs, d ≠ .obj o c ns xs := fun o c ns xs z => by subst z; simp [isiD] at e
  have hh : ∀ u, d ≠ .hole u := fun u z => by subst z; simp [isiD] at e
  obtain ⟨t, ty, ht, f⟩ := r.ty g hd hh (fun z => by subst z; simp [isiD] at e)
  rw [f n] at e
  refine ⟨v, .ty n, .type t, .type n, b, rfl, .ty n, ty, ?_, q⟩
  exact kit_ty ((kit_bi ht hn).trans e)
/-! ### fields -/
theorem snd_fld {f : Str} {x : D} (h : SR K Gf N H (tmp v d :: rs)) (e : fldD d f = some x) : ∃ a c dx fs u, (∃ o ns xs, d = .obj o c ns xs ∧ (look ns xs f).isSome = true) ∧ v = .ref a ∧ H a = some (.ins (He.ga K c) dx fs) ∧ fs.lookup f = some u ∧ SR K Gf N H (tmp u x :: rs) := by
  cases d <;> simp only [fldD, reduceCtorEq] at e
  rename_i o c ns xs
  obtain ⟨y, e1, rfl⟩ := Option.map_eq_some_iff.mp e
  obtain ⟨j, ej, _, lk⟩ := look_at e1
  obtain ⟨a, vs, ev, ⟨l0, dx, ea⟩, l, g⟩ := h.pick rfl
  obtain ⟨u, eu, hh⟩ := g j y ej
  exact ⟨a, c, dx, _, u, ⟨o, ns, xs, rfl, by rw [e1]; rfl⟩, ev, ea, (lk vs l).trans eu, hh.dropMid⟩
theorem snd_flv {f : Str} {x d' : D} (h : SR K Gf N H (tmp v d :: rs)) (e : flvD d f = some (x, d')) : ∃ a c dx fs u, (∃ o ns xs, d = .obj o c ns xs ∧ (look ns xs f).isSome = true) ∧ v = .ref a ∧ H a = some (.ins (He.ga K c) dx fs) ∧ fs.lookup f = some u ∧ SR K Gf N H (tmp u x :: tmp v d' :: rs) := by
  cases d <;> simp only [flvD, reduceCtorEq] at e
  rename_i o c ns xs
  obtain ⟨y, e1, e2⟩ := Option.map_eq_some_iff.mp e
  cases e2
  obtain ⟨j, ej, es, lk⟩ := look_at e1
  obtain ⟨a, vs, ev, ⟨l0, dx, ea⟩, l, g⟩ := h.pick rfl
  obtain ⟨u, eu, hh⟩ := g j y ej
  refine ⟨a, c, dx, _, u, ⟨o, ns, xs, rfl, by rw [e1]; rfl⟩, ev, ea, (lk vs l).trans eu, ?_⟩
  rw [es]
  exact hh
end
end FL

/-! F7: readings of expressions. -/
namespace FL
open PySem PySem.Spec PyProof.Rows L2
def tI (K : PySem.W.Frag) (ev : Env → Option (D × Env)) : TE := fun σ H Q => ∃ Gf N ts ρ, σ.length = ρ.length ∧ SR K Gf N H (ts ++ σ.zip ρ) ∧ ∃ p, ev ρ = some p ∧ ∀ v H', SR K Gf N H' (tmp v p.1 :: (ts ++ σ.zip p.2)) → Q v H'
def tIT (K : PySem.W.Frag) (ev : Env → Option (Bool × Env)) : TT := fun σ H Q => ∃ Gf N ts ρ, σ.length = ρ.length ∧ SR K Gf N H (ts ++ σ.zip ρ) ∧ ∃ p, ev ρ = some p ∧ ∀ H', SR K Gf N H' (ts ++ σ.zip p.2) → Q p.1 H'
def tIA (K : PySem.W.Frag) (ev : Env → Option (List D × Env)) : TA := fun σ H Q => ∃ Gf N ts ρ, σ.length = ρ.length ∧ SR K Gf N H (ts ++ σ.zip ρ) ∧ ∃ p, ev ρ = some p ∧ ∀ vs H', vs.length = p.1.length → SR K Gf N H' (tmps vs p.1 ++ (ts ++ σ.zip p.2)) → Q vs H'
def tIO (K : PySem.W.Frag) (ev : Env → Option (Option Int × Env)) : TO := fun σ H Q => ∃ Gf N ts ρ, σ.length = ρ.length ∧ SR K Gf N H (ts ++ σ.zip ρ) ∧ ∃ p, ev ρ = some p ∧ ∀ H', SR K Gf N H' (ts ++ σ.zip p.2) → Q p.1 H'
/-- the environment keeps its length -/
def Ln {α : Type} (ev : Env → Option (α × Env)) : Prop := ∀ ρ p, ev ρ = some p → p.2.length = ρ.length
structure PX (X : Cx) (e : Expr) (ev : Env → Option (D × Env)) : Prop where
  pe : PE X e (tI X.K ev)
  ln : Ln ev
structure PXT (X : Cx) (e : Expr) (ev : Env → Option (Bool × Env)) : Prop where
  pt : PT X e (tIT X.K ev)
  ln : Ln ev
structure PXA (X : Cx) (es : List Expr) (ev : Env → Option (List D × Env)) : Prop where
  pa : PA X es (tIA X.K ev)
  ln : Ln ev
structure PXO (X : Cx) (e : Option Expr) (ev : Env → Option (Option Int × Env)) : Prop where
  po : PO X e (tIO X.K ev)
  ln : Ln ev
theorem pe_imp {X : Cx} {e : Expr} {t t' : TE} (h : PE X e t) (f : ∀ σ H Q, t' σ H Q → t σ H Q) : PE X e t' := ⟨fun pins s σ H Q I q => h.run pins s σ H Q I (f σ H Q q)⟩
theorem pt_imp {X : Cx} {e : Expr} {t t' : TT} (h : PT X e t) (f : ∀ σ H Q, t' σ H Q → t σ H Q) : PT X e t' := ⟨fun pins s σ H Q I q => h.run pins s σ H Q I (f σ H Q q)⟩
theorem pw_imp {X : Cx} {e : Expr} {t t' : TT} (h : PW X e t) (f : ∀ σ H Q, t' σ H Q → t σ H Q) : PW X e t' := ⟨fun wh pins s σ H Q I q => h.run wh pins s σ H Q I (f σ H Q q)⟩
theorem pa_imp {X : Cx} {es : List Expr} {t t' : TA} (h : PA X es t) (f : ∀ σ H Q, t' σ H Q → t σ H Q) : PA X es t' := ⟨fun pos pins s σ H Q I q => h.run pos pins s σ H Q I (f σ H Q q)⟩
theorem po_imp {X : Cx} {e : Option Expr} {t t' : TO} (h : PO X e t) (f : ∀ σ H Q, t' σ H Q → t σ H Q) : PO X e t' := ⟨fun pins s σ H Q I q => h.run pins s σ H Q I (f σ H Q q)⟩
theorem PX.cg {X : Cx} {e : Expr} {ev ev' : Env → Option (D × Env)} (h : PX X e ev) (f : ∀ ρ, ev' ρ = ev ρ) : PX X e ev' := by
  have : ev' = ev := funext f
  rw [this]; exact h
theorem PXT.cg {X : Cx} {e : Expr} {ev ev' : Env → Option (Bool × Env)} (h : PXT X e ev) (f : ∀ ρ, ev' ρ = ev ρ) : PXT X e ev' := by
  have : ev' = ev := funext f
  rw [this]; exact h
theorem PXA.cg {X : Cx} {e : List Expr} {ev ev' : Env → Option (List D × Env)} (h : PXA X e ev) (f : ∀ ρ, ev' ρ = ev ρ) : PXA X e ev' := by
  have : ev' = ev := funext f
  rw [this]; exact h
theorem bnd {α β : Type} {x : Option α} {f : α → Option β} {b : β} (h : x.bind f = some b) : ∃ a, x = some a ∧ f a = some b := Option.bind_eq_some_iff.mp h
theorem mpd {α β : Type} {x : Option α} {f : α → β} {b : β} (h : x.map f = some b) : ∃ a, x = some a ∧ f a = b := Option.map_eq_some_iff.mp h
section
variable {X : Cx} {a b c : Expr} {pos : Pos} {ea eb ec : Env → Option (D × Env)}
/-! ### names, constants -/
theorem len_set {ρ : Env} {i : Nat} {o : Option D} : (ρ.set i o).length = ρ.length := List.length_set
theorem getS_lt {ρ : Env} {i : Nat} {d : D} (h : getS ρ i = some d) : i < ρ.length := (List.getElem?_eq_some_iff.mp (getS_some h)).1
theorem px_cst {k : Const} {c : Cst} {v : V} (f : Flat v (evCst c)) (h : PE X a (tC v)) : PX X a (fun ρ => some (evCst c, ρ)) := by
  refine ⟨pe_imp h fun σ H Q ⟨Gf, N, ts, ρ, hl, hs, p, e, q⟩ => ?_, fun ρ p e => by cases e; rfl⟩
  cases e
  exact q _ _ (hs.flat f)
theorem px_var {i : Nat} (h : PE X a (tVar i)) : PX X a (fun ρ => (getS ρ i).map fun d => (share d, ρ.set i (some (share d)))) := by
  refine ⟨pe_imp h fun σ H Q ⟨Gf, N, ts, ρ, hl, hs, p, e, q⟩ => ?_, fun ρ p e => by obtain ⟨d, _, rfl⟩ := mpd e; exact len_set⟩
  obtain ⟨d, e0, rfl⟩ := mpd e
  obtain ⟨v, ev⟩ := hs.slotV hl e0
  refine ⟨v, ev, q v H ?_⟩
  have h1 := ((hs.take e0 ev).share1.dup (share_share d))
  have h2 := SR.put (ts := tmp v (share d) :: ts) (σ := σ) (i := i) h1 (by rw [len_set]; exact getS_lt e0) ev
  rw [List.set_set] at h2
  exact h2
theorem px_mov {i : Nat} (h : PE X a (tVar i)) : PX X a (fun ρ => (getS ρ i).map fun d => (d, ρ.set i none)) := by
  refine ⟨pe_imp h fun σ H Q ⟨Gf, N, ts, ρ, hl, hs, p, e, q⟩ => ?_, fun ρ p e => by obtain ⟨d, _, rfl⟩ := mpd e; exact len_set⟩
  obtain ⟨d, e0, rfl⟩ := mpd e
  obtain ⟨v, ev⟩ := hs.slotV hl e0
  exact ⟨v, ev, q v H (hs.take e0 ev)⟩
/-! ### operators -/
theorem px_op {r : R2} {f : D → D → Option D} (hr : Op2 X.K r f) {e : Expr} (h : PE X e (tOp r (tI X.K ea) (tI X.K eb))) (la : Ln ea) (lb : Ln eb) :
    PX X e (fun ρ => (ea ρ).bind fun p => (eb p.2).bind fun q => (f p.1 q.1).map fun d => (d, q.2)) := by
  refine ⟨pe_imp h fun σ H Q ⟨Gf, N, ts, ρ, hl, hs, p, e, q⟩ => ?_, fun ρ p e => ?_⟩
  · obtain ⟨pa, e1, e⟩ := bnd e
    obtain ⟨pb, e2, e⟩ := bnd e
    obtain ⟨d, e3, rfl⟩ := mpd e
    refine ⟨Gf, N, ts, ρ, hl, hs, pa, e1, fun x H1 h1 => ⟨Gf, N, tmp x pa.1 :: ts, pa.2, by rw [la _ _ e1]; exact hl, h1, pb, e2, fun y H2 h2 => ?_⟩⟩
    exact hr h2 e3 fun u H' h3 => q u H' h3
  · obtain ⟨pa, e1, e⟩ := bnd e
    obtain ⟨pb, e2, e⟩ := bnd e
    obtain ⟨d, e3, rfl⟩ := mpd e
    show pb.2.length = _
    rw [lb _ _ e2, la _ _ e1]
theorem px_cmp {r : R2} {f : D → D → Option Bool} (hr : Cmp2 X.K r f) {e : Expr} (h : PE X e (tOp r (tI X.K ea) (tI X.K eb))) (la : Ln ea) (lb : Ln eb) :
    PX X e (fun ρ => (ea ρ).bind fun p => (eb p.2).bind fun q => (f p.1 q.1).map fun d => (.bl d, q.2)) := by
  refine ⟨pe_imp h fun σ H Q ⟨Gf, N, ts, ρ, hl, hs, p, e, q⟩ => ?_, fun ρ p e => ?_⟩
  · obtain ⟨pa, e1, e⟩ := bnd e
    obtain ⟨pb, e2, e⟩ := bnd e
    obtain ⟨d, e3, rfl⟩ := mpd e
    refine ⟨Gf, N, ts, ρ, hl, hs, pa, e1, fun x H1 h1 => ⟨Gf, N, tmp x pa.1 :: ts, pa.2, by rw [la _ _ e1]; exact hl, h1, pb, e2, fun y H2 h2 => ?_⟩⟩
    exact hr h2 e3 (q _ _ (SR.flat h2.drop.drop (.bl _)))
  · obtain ⟨pa, e1, e⟩ := bnd e
    obtain ⟨pb, e2, e⟩ := bnd e
    obtain ⟨d, e3, rfl⟩ := mpd e
    show pb.2.length = _
    rw [lb _ _ e2, la _ _ e1]
/-- a value as a test -/
def asT (ea : Env → Option (D × Env)) : Env → Option (Bool × Env) := fun ρ => (ea ρ).bind fun p => match p.1 with
  | .bl b => some (b, p.2)
  | _ => none
theorem asT_some {ρ : Env} {p : Bool × Env} (h : asT ea ρ = some p) : ea ρ = some (.bl p.1, p.2) := by
  obtain ⟨x, e, h⟩ := bnd h
  obtain ⟨d, ρ'⟩ := x
  cases d <;> simp only [reduceCtorEq] at h
  cases h
  exact e
theorem Ln.asT (la : Ln ea) : Ln (asT ea) := fun ρ p e => la ρ _ (asT_some e)
theorem tIT_of {σ : L2.St} {H : Hp} {Q : Bool → Hp → Prop} (h : tIT X.K (asT ea) σ H Q) : tI X.K ea σ H fun x H1 => ∃ k, x = .bl k ∧ Q k H1 := by
  obtain ⟨Gf, N, ts, ρ, hl, hs, p, e, q⟩ := h
  exact ⟨Gf, N, ts, ρ, hl, hs, _, asT_some e, fun v H' h' => ⟨p.1, h'.isBl, q H' h'.drop⟩⟩
theorem pxt_cmp {r : R2} {f : D → D → Option Bool} (hr : Cmp2 X.K r f) {e : Expr} (h : PT X e (tTest (tOp r (tI X.K ea) (tI X.K eb)))) (la : Ln ea) (lb : Ln eb) :
    PXT X e (asT fun ρ => (ea ρ).bind fun p => (eb p.2).bind fun q => (f p.1 q.1).map fun d => (.bl d, q.2)) := by
  refine ⟨pt_imp h fun σ H Q ⟨Gf, N, ts, ρ, hl, hs, ⟨k, ρ'⟩, e, q⟩ => ?_, Ln.asT fun ρ p e => ?_⟩
  · obtain ⟨pa, e1, e0⟩ := bnd (asT_some e)
    obtain ⟨⟨pb1, pb2⟩, e2, e00⟩ := bnd e0
    obtain ⟨d, e3, e4⟩ := mpd e00
    cases e4
    refine ⟨Gf, N, ts, ρ, hl, hs, pa, e1, fun x H1 h1 => ⟨Gf, N, tmp x pa.1 :: ts, pa.2, by rw [la _ _ e1]; exact hl, h1, _, e2, fun y H2 h2 => ?_⟩⟩
    exact hr h2 e3 ⟨_, rfl, q _ (SR.drop (SR.drop h2))⟩
  · obtain ⟨pa, e1, e⟩ := bnd e
    obtain ⟨pb, e2, e⟩ := bnd e
    obtain ⟨d, e3, rfl⟩ := mpd e
    show pb.2.length = _
    rw [lb _ _ e2, la _ _ e1]
theorem px_neg (h : PE X c (tUn (rU fun i => .int (-i)) (tI X.K ea))) (la : Ln ea) : PX X c (fun ρ => (ea ρ).bind fun p => match p.1 with
    | .int i => some (.int (-i), p.2)
    | _ => none) := by
  have key : ∀ {ρ : Env} {p : D × Env}, ((ea ρ).bind fun p => match p.1 with
    | .int i => some (D.int (-i), p.2)
    | _ => none) = some p → ∃ i ρ', ea ρ = some (.int i, ρ') ∧ p = (.int (-i), ρ') := fun {ρ p} h => by
    obtain ⟨⟨d, ρ'⟩, e, h⟩ := bnd h
    cases d <;> simp only [reduceCtorEq] at h
    cases h
    exact ⟨_, _, e, rfl⟩
  refine ⟨pe_imp h fun σ H Q ⟨Gf, N, ts, ρ, hl, hs, p, e, q⟩ => ?_, fun ρ p e => ?_⟩
  · obtain ⟨i, ρ', e1, rfl⟩ := key e
    exact ⟨Gf, N, ts, ρ, hl, hs, _, e1, fun x H1 h1 => ⟨i, h1.isInt, q _ _ (h1.drop.flat (.int _))⟩⟩
  · obtain ⟨i, ρ', e1, rfl⟩ := key e
    have := la _ _ e1
    exact this
def notE (ea : Env → Option (D × Env)) : Env → Option (D × Env) := fun ρ => (ea ρ).bind fun p => match p.1 with
    | .bl b => some (.bl (!b), p.2)
    | _ => none
theorem notE_some {ρ : Env} {p : D × Env} (h : notE ea ρ = some p) : ∃ b ρ', ea ρ = some (.bl b, ρ') ∧ p = (.bl (!b), ρ') := by
  obtain ⟨⟨d, ρ'⟩, e, h⟩ := bnd h
  cases d <;> simp only [reduceCtorEq] at h
  cases h
  exact ⟨_, _, e, rfl⟩
theorem px_not (h : PE X c (tNotV (tI X.K ea))) (la : Ln ea) : PX X c (notE ea) := by
  refine ⟨pe_imp h fun σ H Q ⟨Gf, N, ts, ρ, hl, hs, p, e, q⟩ => ?_, fun ρ p e => ?_⟩
  · obtain ⟨i, ρ', e1, rfl⟩ := notE_some e
    exact ⟨Gf, N, ts, ρ, hl, hs, _, e1, fun x H1 h1 => ⟨i, h1.isBl, q _ _ (h1.drop.flat (.bl _))⟩⟩
  · obtain ⟨i, ρ', e1, rfl⟩ := notE_some e
    have := la _ _ e1
    exact this
theorem pxt_not (h : PT X c (tNot (tIT X.K (asT ea)))) (la : Ln ea) : PXT X c (asT (notE ea)) := by
  refine ⟨pt_imp h fun σ H Q ⟨Gf, N, ts, ρ, hl, hs, ⟨k, ρ1⟩, e, q⟩ => ?_, Ln.asT fun ρ p e => ?_⟩
  · obtain ⟨i, ρ', e1, e2⟩ := notE_some (asT_some e)
    have e3 : k = !i := by injection e2 with e2 _; injection e2
    have e4 : ρ1 = ρ' := by injection e2
    subst e3 e4
    refine ⟨Gf, N, ts, ρ, hl, hs, (i, ρ1), ?_, fun H1 h1 => ?_⟩
    · unfold asT; rw [e1]; rfl
    · exact q _ h1
  · obtain ⟨i, ρ', e1, rfl⟩ := notE_some e
    have := la _ _ e1
    exact this
end
end FL

/-! F8: readings of expressions, further ones. -/
namespace FL
open PySem PySem.Spec PyProof.Rows L2 StX
section
variable {X : Cx} {a b c e : Expr} {es rest : List Expr} {pos : Pos} {ea eb ec : Env → Option (D × Env)}
/-! ### and, or -/
structure PXB (X : Cx) (e : Expr) (ev : Env → Option (Bool × Env)) : Prop where
  pe : PE X e (tI X.K fun ρ => (ev ρ).map fun p => (.bl p.1, p.2))
  pw : PW X e (tIT X.K ev)
  ln : Ln ev
theorem PXB.px {ev : Env → Option (Bool × Env)} (h : PXB X e ev) : PX X e fun ρ => (ev ρ).map fun p => (.bl p.1, p.2) := ⟨h.pe, fun ρ p e => by
  obtain ⟨p', e1, rfl⟩ := mpd e
  exact h.ln _ _ e1⟩
theorem asT_map {ev : Env → Option (Bool × Env)} (ρ : Env) : asT (fun ρ => (ev ρ).map fun p => (.bl p.1, p.2)) ρ = ev ρ := by
  show (((ev ρ).map fun p => (D.bl p.1, p.2)).bind _) = _
  cases ev ρ with
  | none => rfl
  | some p => rfl
theorem PXB.pxt {ev : Env → Option (Bool × Env)} (h : PXB X e ev) : PXT X e (asT fun ρ => (ev ρ).map fun p => (.bl p.1, p.2)) :=
  PXT.cg ⟨h.pw.pt, h.ln⟩ fun ρ => asT_map ρ
theorem asT_bl {ρ : Env} {p : Bool × Env} (h : ea ρ = some (.bl p.1, p.2)) : asT ea ρ = some p := by
  unfold asT; rw [h]; rfl
theorem tI_asT {σ : L2.St} {H : Hp} {Q : VK} (h : tI X.K (fun ρ => (asT ea ρ).map fun p => (.bl p.1, p.2)) σ H Q) : tI X.K ea σ H Q := by
  obtain ⟨Gf, N, ts, ρ, hl, hs, p, e, q⟩ := h
  obtain ⟨p', e1, rfl⟩ := mpd e
  exact ⟨Gf, N, ts, ρ, hl, hs, _, asT_some e1, q⟩
theorem pxb_and1 (h : PX X a ea) (ht : PXT X a (asT ea)) : PXB X (.BoolOp .And [a] pos) (asT ea) :=
  ⟨pe_imp (pe_one h.pe) fun _ _ _ q => tI_asT q, pw_and1 ht.pt, ht.ln⟩
theorem pxb_or1 (h : PX X a ea) (ht : PXT X a (asT ea)) : PXB X (.BoolOp .Or [a] pos) (asT ea) :=
  ⟨pe_imp (pe_one h.pe) fun _ _ _ q => tI_asT q, pw_or1 ht.pt, ht.ln⟩
def andE (ea : Env → Option (D × Env)) (ev : Env → Option (Bool × Env)) : Env → Option (Bool × Env) := fun ρ => (ea ρ).bind fun p => match p.1 with
    | .bl true => ev p.2
    | .bl false => some (false, p.2)
    | _ => none
def orE (ea : Env → Option (D × Env)) (ev : Env → Option (Bool × Env)) : Env → Option (Bool × Env) := fun ρ => (ea ρ).bind fun p => match p.1 with
    | .bl false => ev p.2
    | .bl true => some (true, p.2)
    | _ => none
theorem andE_some {ev : Env → Option (Bool × Env)} {ρ : Env} {p : Bool × Env} (h : andE ea ev ρ = some p) : (∃ ρ', ea ρ = some (.bl true, ρ') ∧ ev ρ' = some p) ∨ (ea ρ = some (.bl false, p.2) ∧ p.1 = false) := by
  obtain ⟨⟨d, ρ'⟩, e, h⟩ := bnd h
  cases d with
  | bl k =>
    cases k with
    | true => exact .inl ⟨ρ', e, h⟩
    | false => cases h; exact .inr ⟨e, rfl⟩
  | _ => cases h
theorem orE_some {ev : Env → Option (Bool × Env)} {ρ : Env} {p : Bool × Env} (h : orE ea ev ρ = some p) : (∃ ρ', ea ρ = some (.bl false, ρ') ∧ ev ρ' = some p) ∨ (ea ρ = some (.bl true, p.2) ∧ p.1 = true) := by
  obtain ⟨⟨d, ρ'⟩, e, h⟩ := bnd h
  cases d with
  | bl k =>
    cases k with
    | false => exact .inl ⟨ρ', e, h⟩
    | true => cases h; exact .inr ⟨e, rfl⟩
  | _ => cases h
theorem Ln.andE {ev : Env → Option (Bool × Env)} (la : Ln ea) (lb : Ln ev) : Ln (andE ea ev) := fun ρ p e => by
  rcases andE_some e with ⟨ρ', e1, e2⟩ | ⟨e1, _⟩
  · rw [lb _ _ e2]; exact la _ _ e1
  · exact la _ _ e1
theorem Ln.orE {ev : Env → Option (Bool × Env)} (la : Ln ea) (lb : Ln ev) : Ln (orE ea ev) := fun ρ p e => by
  rcases orE_some e with ⟨ρ', e1, e2⟩ | ⟨e1, _⟩
  · rw [lb _ _ e2]; exact la _ _ e1
  · exact la _ _ e1
theorem pxb_and {ev : Env → Option (Bool × Env)} (h : PX X a ea) (ht : PXT X a (asT ea)) (hb : PXB X (.BoolOp .And (b :: rest) pos) ev) : PXB X (.BoolOp .And (a :: b :: rest) pos) (andE ea ev) := by
  refine ⟨pe_imp (pe_and h.pe hb.pe) fun σ H Q ⟨Gf, N, ts, ρ, hl, hs, p, e, q⟩ => ?_, pw_imp (pw_and ht.pt hb.pw) fun σ H Q ⟨Gf, N, ts, ρ, hl, hs, p, e, q⟩ => ?_, h.ln.andE hb.ln⟩
  · obtain ⟨p, e0, rfl⟩ := mpd e
    rcases andE_some e0 with ⟨ρ', e1, e2⟩ | ⟨e1, e2⟩
    · refine ⟨Gf, N, ts, ρ, hl, hs, _, e1, fun x H1 h1 => ⟨true, h1.isBl, ?_⟩⟩
      refine iteT ?_
      exact ⟨Gf, N, ts, ρ', hl.trans (h.ln _ _ e1).symm, h1.drop, (.bl p.1, p.2), by show (ev ρ').map _ = _; rw [e2]; rfl, q⟩
    · refine ⟨Gf, N, ts, ρ, hl, hs, _, e1, fun x H1 h1 => ⟨false, h1.isBl, ?_⟩⟩
      refine iteF ?_
      refine q _ _ ?_
      rw [e2, ← h1.isBl]; exact h1
  · rcases andE_some e with ⟨ρ', e1, e2⟩ | ⟨e1, e2⟩
    · refine ⟨Gf, N, ts, ρ, hl, hs, (true, ρ'), asT_bl e1, fun H1 h1 => ?_⟩
      refine iteT ?_
      exact ⟨Gf, N, ts, ρ', hl.trans (h.ln _ _ e1).symm, h1, p, e2, q⟩
    · refine ⟨Gf, N, ts, ρ, hl, hs, (false, p.2), asT_bl e1, fun H1 h1 => ?_⟩
      refine iteF ?_
      have := q _ h1
      rw [e2] at this
      exact this
theorem pxb_or {ev : Env → Option (Bool × Env)} (h : PX X a ea) (ht : PXT X a (asT ea)) (hb : PXB X (.BoolOp .Or (b :: rest) pos) ev) : PXB X (.BoolOp .Or (a :: b :: rest) pos) (orE ea ev) := by
  refine ⟨pe_imp (pe_or h.pe hb.pe) fun σ H Q ⟨Gf, N, ts, ρ, hl, hs, p, e, q⟩ => ?_, pw_imp (pw_or ht.pt hb.pw) fun σ H Q ⟨Gf, N, ts, ρ, hl, hs, p, e, q⟩ => ?_, h.ln.orE hb.ln⟩
  · obtain ⟨p, e0, rfl⟩ := mpd e
    rcases orE_some e0 with ⟨ρ', e1, e2⟩ | ⟨e1, e2⟩
    · refine ⟨Gf, N, ts, ρ, hl, hs, _, e1, fun x H1 h1 => ⟨false, h1.isBl, ?_⟩⟩
      refine iteF ?_
      exact ⟨Gf, N, ts, ρ', hl.trans (h.ln _ _ e1).symm, h1.drop, (.bl p.1, p.2), by show (ev ρ').map _ = _; rw [e2]; rfl, q⟩
    · refine ⟨Gf, N, ts, ρ, hl, hs, _, e1, fun x H1 h1 => ⟨true, h1.isBl, ?_⟩⟩
      refine iteT ?_
      refine q _ _ ?_
      rw [e2, ← h1.isBl]; exact h1
  · rcases orE_some e with ⟨ρ', e1, e2⟩ | ⟨e1, e2⟩
    · refine ⟨Gf, N, ts, ρ, hl, hs, (false, ρ'), asT_bl e1, fun H1 h1 => ?_⟩
      refine iteF ?_
      exact ⟨Gf, N, ts, ρ', hl.trans (h.ln _ _ e1).symm, h1, p, e2, q⟩
    · refine ⟨Gf, N, ts, ρ, hl, hs, (true, p.2), asT_bl e1, fun H1 h1 => ?_⟩
      refine iteT ?_
      have := q _ h1
      rw [e2] at this
      exact this
/-! ### chains -/
def chnE (f f' : D → D → Option Bool) (ea eb ec : Env → Option (D × Env)) : Env → Option (D × Env) := fun ρ => (ea ρ).bind fun p => (eb p.2).bind fun q => (f p.1 (share q.1)).bind fun d => if d = true then (ec q.2).bind fun r => (f' (share q.1) r.1).map fun d' => (.bl d', r.2) else some (.bl false, q.2)
theorem chnE_some {f f' : D → D → Option Bool} {ρ : Env} {p : D × Env} (h : chnE f f' ea eb ec ρ = some p) : ∃ pa pb, ea ρ = some pa ∧ eb pa.2 = some pb ∧ ((f pa.1 (share pb.1) = some false ∧ p = (.bl false, pb.2)) ∨
    ∃ pc k, f pa.1 (share pb.1) = some true ∧ ec pb.2 = some pc ∧ f' (share pb.1) pc.1 = some k ∧ p = (.bl k, pc.2)) := by
  obtain ⟨pa, e1, h⟩ := bnd h
  obtain ⟨pb, e2, h⟩ := bnd h
  obtain ⟨d, e3, h⟩ := bnd h
  refine ⟨pa, pb, e1, e2, ?_⟩
  cases d with
  | true =>
    rw [if_pos rfl] at h
    obtain ⟨pc, e4, h⟩ := bnd h
    obtain ⟨k, e5, rfl⟩ := mpd h
    exact .inr ⟨pc, k, e3, e4, e5, rfl⟩
  | false =>
    rw [if_neg (by simp)] at h
    cases h
    exact .inl ⟨e3, rfl⟩
theorem Ln.chnE {f f' : D → D → Option Bool} (la : Ln ea) (lb : Ln eb) (lc : Ln ec) : Ln (chnE f f' ea eb ec) := fun ρ p h => by
  obtain ⟨pa, pb, e1, e2, ⟨_, rfl⟩ | ⟨pc, k, _, e4, _, rfl⟩⟩ := chnE_some h
  · show pb.2.length = _; rw [lb _ _ e2, la _ _ e1]
  · show pc.2.length = _; rw [lc _ _ e4, lb _ _ e2, la _ _ e1]
theorem tI_chn {r r' : R2} {f f' : D → D → Option Bool} (hr : Cmp2 X.K r f) (hr' : Cmp2 X.K r' f') (la : Ln ea) (lb : Ln eb) (lc : Ln ec) {σ : L2.St} {H : Hp} {Q : VK} (h : tI X.K (chnE f f' ea eb ec) σ H Q) : tChain r r' (tI X.K ea) (tI X.K eb) (tI X.K ec) σ H Q := by
  obtain ⟨Gf, N, ts, ρ, hl, hs, p, e, q⟩ := h
  obtain ⟨pa, pb, e1, e2, h⟩ := chnE_some e
  refine ⟨Gf, N, ts, ρ, hl, hs, pa, e1, fun x H1 h1 => ⟨Gf, N, tmp x pa.1 :: ts, pa.2, by rw [la _ _ e1]; exact hl, h1, pb, e2, fun y H2 h2 => ?_⟩⟩
  have h2' : SR X.K Gf N H2 (tmp y (share pb.1) :: tmp x pa.1 :: (ts ++ σ.zip pb.2)) := SR.share1 h2
  rcases h with ⟨e3, rfl⟩ | ⟨pc, k, e3, e4, e5, rfl⟩
  · refine hr h2' e3 ⟨false, rfl, ?_⟩
    rw [if_neg (by simp)]
    exact q _ _ (h2'.drop.drop.flat (.bl _))
  · refine hr h2' e3 ⟨true, rfl, ?_⟩
    rw [if_pos rfl]
    refine ⟨Gf, N, tmp y (share pb.1) :: ts, pb.2, by rw [lb _ _ e2, la _ _ e1]; exact hl, h2'.dropMid, pc, e4, fun z H3 h3 => ?_⟩
    exact hr' h3 e5 (q _ _ (SR.flat h3.drop.drop (.bl _)))
theorem px_chn {r r' : R2} {f f' : D → D → Option Bool} (hr : Cmp2 X.K r f) (hr' : Cmp2 X.K r' f') (h : PE X e (tChain r r' (tI X.K ea) (tI X.K eb) (tI X.K ec))) (la : Ln ea) (lb : Ln eb) (lc : Ln ec) : PX X e (chnE f f' ea eb ec) :=
  ⟨pe_imp h fun _ _ _ q => tI_chn hr hr' la lb lc q, la.chnE lb lc⟩
theorem pxt_chn {r r' : R2} {f f' : D → D → Option Bool} (hr : Cmp2 X.K r f) (hr' : Cmp2 X.K r' f') (h : PT X e (tTest (tChain r r' (tI X.K ea) (tI X.K eb) (tI X.K ec)))) (la : Ln ea) (lb : Ln eb) (lc : Ln ec) : PXT X e (asT (chnE f f' ea eb ec)) :=
  ⟨pt_imp h fun _ _ _ q => tI_chn hr hr' la lb lc (tIT_of q), Ln.asT (la.chnE lb lc)⟩
/-! ### if -/
def iteE (ec ea eb : Env → Option (D × Env)) : Env → Option (D × Env) := fun ρ => (ec ρ).bind fun p => match p.1 with
    | .bl true => ea p.2
    | .bl false => eb p.2
    | _ => none
theorem iteE_some {ρ : Env} {p : D × Env} (h : iteE ec ea eb ρ = some p) : ∃ ρ', (ec ρ = some (.bl true, ρ') ∧ ea ρ' = some p) ∨ (ec ρ = some (.bl false, ρ') ∧ eb ρ' = some p) := by
  obtain ⟨⟨d, ρ'⟩, e, h⟩ := bnd h
  cases d with
  | bl k =>
    cases k with
    | true => exact ⟨ρ', .inl ⟨e, h⟩⟩
    | false => exact ⟨ρ', .inr ⟨e, h⟩⟩
  | _ => cases h
theorem px_ite (hc : PXT X c (asT ec)) (lc : Ln ec) (ha : PX X a ea) (hb : PX X b eb) : PX X (.IfExp c a b pos) (iteE ec ea eb) := by
  refine ⟨pe_imp (pe_ifExp hc.pt ha.pe hb.pe) fun σ H Q ⟨Gf, N, ts, ρ, hl, hs, p, e, q⟩ => ?_, fun ρ p e => ?_⟩
  · obtain ⟨ρ', ⟨e1, e2⟩ | ⟨e1, e2⟩⟩ := iteE_some e
    · refine ⟨Gf, N, ts, ρ, hl, hs, (true, ρ'), asT_bl e1, fun H1 h1 => ?_⟩
      refine iteT ?_
      exact ⟨Gf, N, ts, ρ', hl.trans (lc _ _ e1).symm, h1, p, e2, q⟩
    · refine ⟨Gf, N, ts, ρ, hl, hs, (false, ρ'), asT_bl e1, fun H1 h1 => ?_⟩
      refine iteF ?_
      exact ⟨Gf, N, ts, ρ', hl.trans (lc _ _ e1).symm, h1, p, e2, q⟩
  · obtain ⟨ρ', ⟨e1, e2⟩ | ⟨e1, e2⟩⟩ := iteE_some e
    · rw [ha.ln _ _ e2]; exact lc _ _ e1
    · rw [hb.ln _ _ e2]; exact lc _ _ e1
/-! ### argument lists, displays -/
theorem pxa_nil : PXA X [] (fun ρ => some ([], ρ)) := ⟨pa_imp pa_nil fun σ H Q ⟨Gf, N, ts, ρ, hl, hs, p, e, q⟩ => by cases e; exact q [] _ rfl hs, fun ρ p e => by cases e; rfl⟩
theorem pxa_cons {er : Env → Option (List D × Env)} (ha : PX X a ea) (hr : PXA X es er) (hs : starEach (a :: es) X.env = (false, eval a X.env) :: starEach es X.env) :
    PXA X (a :: es) (fun ρ => (ea ρ).bind fun p => (er p.2).map fun q => (p.1 :: q.1, q.2)) := by
  refine ⟨pa_imp (pa_cons ha.pe hr.pa hs) fun σ H Q ⟨Gf, N, ts, ρ, hl, hs, p, e, q⟩ => ?_, fun ρ p e => ?_⟩
  · obtain ⟨pa, e1, e⟩ := bnd e
    obtain ⟨pr, e2, rfl⟩ := mpd e
    refine ⟨Gf, N, ts, ρ, hl, hs, pa, e1, fun x H1 h1 => ⟨Gf, N, tmp x pa.1 :: ts, pa.2, by rw [ha.ln _ _ e1]; exact hl, h1, pr, e2, fun vs H2 l2 h2 => ?_⟩⟩
    refine q (x :: vs) H2 (by simp [l2]) ?_
    exact SR.toFront h2
  · obtain ⟨pa, e1, e⟩ := bnd e
    obtain ⟨pr, e2, rfl⟩ := mpd e
    show pr.2.length = _
    rw [hr.ln _ _ e2, ha.ln _ _ e1]
def starE (ea : Env → Option (D × Env)) (er : Env → Option (List D × Env)) : Env → Option (List D × Env) := fun ρ => (ea ρ).bind fun p => match p.1 with
    | .tup xs => (er p.2).map fun q => (shares xs ++ q.1, q.2)
    | .lst _ xs => (er p.2).map fun q => (shares xs ++ q.1, q.2)
    | _ => none
theorem starE_some {er : Env → Option (List D × Env)} {ρ : Env} {p : List D × Env} (h : starE ea er ρ = some p) : ∃ d ρ' q, ea ρ = some (d, ρ') ∧ isCont d = true ∧ (∀ (K : PySem.W.Frag) H a vs, Cont K H a vs d → SqT K H a vs ∨ SqL K H a vs) ∧ er ρ' = some q ∧ p = (shares (itemsD d) ++ q.1, q.2) := by
  obtain ⟨⟨d, ρ'⟩, e, h⟩ := bnd h
  cases d with
  | tup xs =>
    obtain ⟨q, e2, rfl⟩ := mpd h
    exact ⟨_, ρ', q, e, rfl, fun K H a vs c => .inl c, e2, rfl⟩
  | lst f xs =>
    obtain ⟨q, e2, rfl⟩ := mpd h
    exact ⟨_, ρ', q, e, rfl, fun K H a vs c => .inr c.1, e2, rfl⟩
  | _ => cases h
theorem pxa_star {er : Env → Option (List D × Env)} {p : Pos} (ha : PX X a ea) (hr : PXA X es er) (hs : starEach (.Starred a p :: es) X.env = (true, eval a X.env) :: starEach es X.env) : PXA X (.Starred a p :: es) (starE ea er) := by
  refine ⟨pa_imp (pa_star ha.pe hr.pa hs) fun σ H Q ⟨Gf, N, ts, ρ, hl, hs, p, e, q⟩ => ?_, fun ρ p e => ?_⟩
  · obtain ⟨d, ρ', pr, e1, hc, hq, e2, rfl⟩ := starE_some e
    refine ⟨Gf, N, ts, ρ, hl, hs, _, e1, fun x H1 h1 => ?_⟩
    obtain ⟨a, vs, ev, c, l, h2⟩ := h1.items1 hc
    refine ⟨a, vs, ev, hq _ _ _ _ c, Gf, N, tmps vs (shares (itemsD d)) ++ ts, ρ', by rw [hl]; exact (ha.ln _ _ e1).symm, by rw [List.append_assoc]; exact h2, pr, e2, fun us H2 l2 h3 => ?_⟩
    refine q (vs ++ us) H2 (by simp [l, l2, shares_len]) ?_
    rw [tmps_append (by rw [l, shares_len])]
    refine h3.perm ?_
    rw [List.append_assoc, List.append_assoc, ← List.append_assoc, ← List.append_assoc (tmps vs _)]
    exact List.perm_append_comm.append_right _
  · obtain ⟨d, ρ', pr, e1, hc, hq, e2, rfl⟩ := starE_some e
    show pr.2.length = _
    rw [hr.ln _ _ e2]; exact ha.ln _ _ e1
def lstE (er : Env → Option (List D × Env)) : Env → Option (D × Env) := fun ρ => (er ρ).bind fun p => if p.1.length ≤ SZ then some (.lst .own p.1, p.2) else none
def tupE (er : Env → Option (List D × Env)) : Env → Option (D × Env) := fun ρ => (er ρ).bind fun p => if p.1.length ≤ SZ then some (.tup p.1, p.2) else none
theorem px_lst {er : Env → Option (List D × Env)} (h : PXA X es er) : PX X (.List es pos) (lstE er) := by
  have key : ∀ {ρ p}, lstE er ρ = some p → ∃ q, er ρ = some q ∧ q.1.length ≤ SZ ∧ p = (.lst .own q.1, q.2) := fun {ρ p} h => by
    obtain ⟨q, e, h⟩ := bnd h
    split at h
    · cases h; exact ⟨q, e, by assumption, rfl⟩
    · cases h
  refine ⟨pe_imp (pe_lst h.pa) fun σ H Q ⟨Gf, N, ts, ρ, hl, hs, p, e, q⟩ => ?_, fun ρ p e => ?_⟩
  · obtain ⟨pr, e1, l, rfl⟩ := key e
    exact ⟨Gf, N, ts, ρ, hl, hs, pr, e1, fun vs H1 l1 h1 => ⟨by rw [l1, sizeLine_eq]; exact l, fun p hp => q _ _ (h1.newL l1 hp)⟩⟩
  · obtain ⟨pr, e1, l, rfl⟩ := key e
    have := h.ln _ _ e1
    exact this
theorem px_tup {er : Env → Option (List D × Env)} {k : Nat} (h : PXA X es er) : PX X (.Tuple es k pos) (tupE er) := by
  have key : ∀ {ρ p}, tupE er ρ = some p → ∃ q, er ρ = some q ∧ q.1.length ≤ SZ ∧ p = (.tup q.1, q.2) := fun {ρ p} h => by
    obtain ⟨q, e, h⟩ := bnd h
    split at h
    · cases h; exact ⟨q, e, by assumption, rfl⟩
    · cases h
  refine ⟨pe_imp (pe_tup h.pa) fun σ H Q ⟨Gf, N, ts, ρ, hl, hs, p, e, q⟩ => ?_, fun ρ p e => ?_⟩
  · obtain ⟨pr, e1, l, rfl⟩ := key e
    exact ⟨Gf, N, ts, ρ, hl, hs, pr, e1, fun vs H1 l1 h1 => ⟨by rw [l1, sizeLine_eq]; exact l, fun p hp => q _ _ (h1.newT l1 hp)⟩⟩
  · obtain ⟨pr, e1, l, rfl⟩ := key e
    have := h.ln _ _ e1
    exact this
/-! ### x[i] of a name, slices -/
theorem px_idv {i : Nat} (ha : PE X a (tVar i)) (hb : PX X b eb) (hs : PlainIx b) : PX X (.Subscript a b pos) (fun ρ => (getS ρ i).bind fun _ => (eb ρ).bind fun p => (getS p.2 i).bind fun x => (idvD x p.1).map fun r => (r.1, p.2.set i (some r.2))) := by
  refine ⟨pe_imp (pe_ix ixr_X ha hb.pe hs) fun σ H Q ⟨Gf, N, ts, ρ, hl, hs, p, e, q⟩ => ?_, fun ρ p e => ?_⟩
  · obtain ⟨x0, e0, e⟩ := bnd e
    obtain ⟨pb, e1, e⟩ := bnd e
    obtain ⟨x, e2, e⟩ := bnd e
    obtain ⟨r, e3, rfl⟩ := mpd e
    obtain ⟨v, ev⟩ := hs.slotV hl e0
    refine ⟨v, ev, Gf, N, ts, ρ, hl, hs, pb, e1, fun y H2 h2 => ?_⟩
    have h3 := SR.take (ts := tmp y pb.1 :: ts) h2 e2 ev
    refine snd_XV (d := r.1) (dv' := r.2) h3.swap2 (by rw [e3]) fun u h4 => q u H2 ?_
    have h5 := SR.put (ts := tmp u r.1 :: ts) (σ := σ) (i := i) h4.swap2 (by rw [len_set]; exact getS_lt e2) ev
    rw [List.set_set] at h5
    exact h5
  · obtain ⟨x0, e0, e⟩ := bnd e
    obtain ⟨pb, e1, e⟩ := bnd e
    obtain ⟨x, e2, e⟩ := bnd e
    obtain ⟨r, e3, rfl⟩ := mpd e
    show (pb.2.set i _).length = _
    rw [len_set]; exact hb.ln _ _ e1
theorem pxo_no : PXO X none (fun ρ => some (none, ρ)) := ⟨po_imp po_none fun σ H Q ⟨Gf, N, ts, ρ, hl, hs, p, e, q⟩ => by cases e; exact q _ hs, fun ρ p e => by cases e; rfl⟩
def someE (ea : Env → Option (D × Env)) : Env → Option (Option Int × Env) := fun ρ => (ea ρ).bind fun p => match p.1 with
    | .int i => some (some i, p.2)
    | _ => none
theorem someE_some {ρ : Env} {p : Option Int × Env} (h : someE ea ρ = some p) : ∃ i, ea ρ = some (.int i, p.2) ∧ p.1 = some i := by
  obtain ⟨⟨d, ρ'⟩, e, h⟩ := bnd h
  cases d <;> simp only [reduceCtorEq] at h
  cases h
  exact ⟨_, e, rfl⟩
theorem pxo_yes (ha : PX X a ea) (h : PO X (some a) (tPart (tI X.K ea))) : PXO X (some a) (someE ea) := by
  refine ⟨po_imp h fun σ H Q ⟨Gf, N, ts, ρ, hl, hs, p, e, q⟩ => ?_, fun ρ p e => ?_⟩
  · obtain ⟨i, e1, e2⟩ := someE_some e
    refine ⟨Gf, N, ts, ρ, hl, hs, _, e1, fun x H1 h1 => ⟨i, h1.isInt, ?_⟩⟩
    rw [← e2]; exact q _ h1.drop
  · obtain ⟨i, e1, e2⟩ := someE_some e
    exact ha.ln _ _ e1
theorem px_slc {lo hi : Option Expr} {el eh : Env → Option (Option Int × Env)} {p2 : Pos} (ha : PX X a ea) (hl : PXO X lo el) (hh : PXO X hi eh) :
    PX X (.Subscript a (.Slice lo hi none p2) pos) (fun ρ => (ea ρ).bind fun p => (el p.2).bind fun l => (eh l.2).bind fun h => (slcD p.1 l.1 h.1).map fun d => (d, h.2)) := by
  refine ⟨pe_imp (pe_slice sl_list ha.pe hl.po hh.po) fun σ H Q ⟨Gf, N, ts, ρ, hz, hs, p, e, q⟩ => ?_, fun ρ p e => ?_⟩
  · obtain ⟨pa, e1, e⟩ := bnd e
    obtain ⟨pl, e2, e⟩ := bnd e
    obtain ⟨ph, e3, e⟩ := bnd e
    obtain ⟨d, e4, rfl⟩ := mpd e
    refine ⟨Gf, N, ts, ρ, hz, hs, pa, e1, fun x H1 h1 => ⟨Gf, N, tmp x pa.1 :: ts, pa.2, by rw [ha.ln _ _ e1]; exact hz, h1, pl, e2, fun H2 h2 => ⟨Gf, N, tmp x pa.1 :: ts, pl.2, by rw [hl.ln _ _ e2, ha.ln _ _ e1]; exact hz, h2, ph, e3, fun H3 h3 => ?_⟩⟩⟩
    exact snd_slc h3 e4 fun u H' h4 => q u H' h4
  · obtain ⟨pa, e1, e⟩ := bnd e
    obtain ⟨pl, e2, e⟩ := bnd e
    obtain ⟨ph, e3, e⟩ := bnd e
    obtain ⟨d, e4, rfl⟩ := mpd e
    show ph.2.length = _
    rw [hh.ln _ _ e3, hl.ln _ _ e2, ha.ln _ _ e1]
/-! ### built-ins -/
theorem px_call {er : Env → Option (List D × Env)} {r : RC1} {f : List D → Option D} (hr : CallS X.K r f) (h : PE X e (tCB r (tIA X.K er))) (lr : Ln er) : PX X e (fun ρ => (er ρ).bind fun p => (f p.1).map fun d => (d, p.2)) := by
  refine ⟨pe_imp h fun σ H Q ⟨Gf, N, ts, ρ, hl, hs, p, e, q⟩ => ?_, fun ρ p e => ?_⟩
  · obtain ⟨pr, e1, e⟩ := bnd e
    obtain ⟨d, e2, rfl⟩ := mpd e
    exact ⟨Gf, N, ts, ρ, hl, hs, pr, e1, fun vs H1 l1 h1 => hr h1 l1 e2 fun u H' h2 => q u H' h2⟩
  · obtain ⟨pr, e1, e⟩ := bnd e
    obtain ⟨d, e2, rfl⟩ := mpd e
    have := lr _ _ e1
    exact this
/-- isinstance(a, n) -/
theorem px_isi {n : String} (hn : n ∈ biNames) (h : PE X e (tCB (rIsi X.K) (tCons (tI X.K ea) (tCons (tC (.ty n)) tNil)))) (la : Ln ea) : PX X e (fun ρ => (ea ρ).bind fun p => (isiD p.1 (.bi n)).map fun b => (.bl b, p.2)) := by
  refine ⟨pe_imp h fun σ H Q ⟨Gf, N, ts, ρ, hl, hs, p, e, q⟩ => ?_, fun ρ p e => ?_⟩
  · obtain ⟨pa, e1, e⟩ := bnd e
    obtain ⟨b, e2, rfl⟩ := mpd e
    exact ⟨Gf, N, ts, ρ, hl, hs, pa, e1, fun x H1 h1 => snd_isi h1 hn e2 (q _ _ (h1.drop.flat (.bl _)))⟩
  · obtain ⟨pa, e1, e⟩ := bnd e
    obtain ⟨b, e2, rfl⟩ := mpd e
    have := la _ _ e1
    exact this
/-! ### fields -/
/-- the classes and their fields that are known -/
def ClsOk (K : PySem.W.Frag) (cs : List (Str × List Str)) : Prop := ∀ c ∈ cs, Cls K (He.ga K c.1) ∧ ∀ f ∈ c.2, NoAttr K (He.ga K c.1) f
theorem hasFld_ok {K : PySem.W.Frag} {cs : List (Str × List Str)} (hc : ClsOk K cs) {f c : Str} {o : Fl} {ns : List Str} {xs : List D} (h : hasFld cs f (.obj o c ns xs) = true) : Cls K (He.ga K c) ∧ NoAttr K (He.ga K c) f := by
  unfold hasFld at h
  obtain ⟨p, hp, h⟩ := List.any_eq_true.mp h
  rw [Bool.and_eq_true] at h
  have e := of_decide_eq_true h.1
  subst e
  exact ⟨(hc p hp).1, (hc p hp).2 f (by simpa using h.2)⟩
theorem px_fld {cs : List (Str × List Str)} {f : Str} (hc : ClsOk X.K cs) (ha : PX X a ea) (hb : attributeBase a f X.env (eval a X.env) = eval a X.env) : PX X (.Attribute a f pos) (fun ρ => (ea ρ).bind fun p => if hasFld cs f p.1 = true then (fldD p.1 f).map fun d => (d, p.2) else none) := by
  refine ⟨pe_imp (pe_fld ha.pe hb) fun σ H Q ⟨Gf, N, ts, ρ, hl, hs, p, e, q⟩ => ?_, fun ρ p e => ?_⟩
  · obtain ⟨pa, e1, e⟩ := bnd e
    split at e
    · rename_i hf
      obtain ⟨d, e2, rfl⟩ := mpd e
      refine ⟨Gf, N, ts, ρ, hl, hs, pa, e1, fun x H1 h1 => ?_⟩
      obtain ⟨a, c, dx, fs, u, ⟨o, ns, xs, ed, _⟩, ev, ea, lk, h2⟩ := snd_fld h1 e2
      rw [ed] at hf
      exact ⟨a, _, dx, fs, u, ev, ea, (hasFld_ok hc hf).1, (hasFld_ok hc hf).2, lk, q _ _ h2⟩
    · cases e
  · obtain ⟨pa, e1, e⟩ := bnd e
    split at e
    · obtain ⟨d, e2, rfl⟩ := mpd e
      have := ha.ln _ _ e1
      exact this
    · cases e
theorem px_flv {cs : List (Str × List Str)} {i : Nat} {f : Str} (hc : ClsOk X.K cs) (ha : PE X a (tVar i)) (hb : attributeBase a f X.env (eval a X.env) = eval a X.env) : PX X (.Attribute a f pos) (fun ρ => (getS ρ i).bind fun x => if hasFld cs f x = true then (flvD x f).map fun r => (r.1, ρ.set i (some r.2)) else none) := by
  refine ⟨pe_imp (pe_fld ha hb) fun σ H Q ⟨Gf, N, ts, ρ, hl, hs, p, e, q⟩ => ?_, fun ρ p e => ?_⟩
  · obtain ⟨x, e1, e⟩ := bnd e
    split at e
    · rename_i hf
      obtain ⟨r, e2, rfl⟩ := mpd e
      obtain ⟨v, ev⟩ := hs.slotV hl e1
      refine ⟨v, ev, ?_⟩
      obtain ⟨a, c, dx, fs, u, ⟨o, ns, xs, ed, _⟩, ev', ea, lk, h2⟩ := snd_flv (x := r.1) (d' := r.2) (hs.take e1 ev) (by rw [e2])
      rw [ed] at hf
      refine ⟨a, _, dx, fs, u, ev', ea, (hasFld_ok hc hf).1, (hasFld_ok hc hf).2, lk, q _ _ ?_⟩
      have h5 := SR.put (ts := tmp u r.1 :: ts) (σ := σ) (i := i) h2.swap2 (by rw [len_set]; exact getS_lt e1) ev
      rw [List.set_set] at h5
      exact h5
    · cases e
  · obtain ⟨x, e1, e⟩ := bnd e
    split at e
    · obtain ⟨r, e2, rfl⟩ := mpd e
      exact len_set
    · cases e
/-! ### calls -/
def rootsA : List V → List (Option D) → List Root
  | v :: vs, o :: os => (some v, o) :: rootsA vs os
  | _, _ => []
theorem rootsA_some : ∀ (vs : List V) (ds : List D), rootsA vs (ds.map some) = tmps vs ds
  | [], _ => by cases ‹List D› <;> rfl
  | _ :: _, [] => rfl
  | v :: vs, d :: ds => by simp [rootsA, tmps, rootsA_some vs ds]
def RefOk (σ : L2.St) : As → List V → Prop
  | .nil, [] => True
  | .cons (.val _) as, _ :: vs => RefOk σ as vs
  | .cons (.ref i) as, v :: vs => σ[i]? = some (some v) ∧ RefOk σ as vs
  | _, _ => False
section
variable {K : PySem.W.Frag} {H Gf : Hp} {N : List Addr} {σ : L2.St}
theorem take_ok : ∀ {as : As} {vs : List V} {ods : List (Option D)} {ρ ρ' : Env} {ds : List D} {ts : List Root}, SR K Gf N H (rootsA vs ods ++ (ts ++ σ.zip ρ)) → RefOk σ as vs → takeA as ods ρ = some (ds, ρ') →
    SR K Gf N H (tmps vs ds ++ (ts ++ σ.zip ρ')) ∧ vs.length = ds.length ∧ ρ'.length = ρ.length
  | .nil, [], [], ρ, ρ', ds, ts, h, _, e => by
    simp only [takeA, Option.some.injEq, Prod.mk.injEq] at e
    obtain ⟨rfl, rfl⟩ := e
    exact ⟨h, rfl, rfl⟩
  | .nil, _ :: _, _, _, _, _, _, _, r, _ => by simp [RefOk] at r
  | .nil, [], _ :: _, _, _, _, _, _, _, e => by simp [takeA] at e
  | .cons _ _, [], _, _, _, _, _, _, r, _ => by simp [RefOk] at r
  | .cons (.val _) as, v :: vs, [], _, _, _, _, _, _, e => by simp [takeA] at e
  | .cons (.ref _) as, v :: vs, [], _, _, _, _, _, _, e => by simp [takeA] at e
  | .cons (.val _) as, v :: vs, none :: ods, _, _, _, _, _, _, e => by simp [takeA] at e
  | .cons (.ref _) as, v :: vs, some _ :: ods, _, _, _, _, _, _, e => by simp [takeA] at e
  | .cons (.val x) as, v :: vs, some d :: ods, ρ, ρ', ds, ts, h, r, e => by
    simp only [takeA] at e
    obtain ⟨⟨ds', ρ2⟩, e1, e2⟩ := mpd e
    cases e2
    have h1 : SR K Gf N H (rootsA vs ods ++ ((tmp v d :: ts) ++ σ.zip ρ)) := SR.fromFront (r := tmp v d) h
    obtain ⟨h2, l, l'⟩ := take_ok (as := as) h1 (by simpa [RefOk] using r) e1
    exact ⟨SR.toFront (r := tmp v d) h2, by simp [l], l'⟩
  | .cons (.ref i) as, v :: vs, none :: ods, ρ, ρ', ds, ts, h, r, e => by
    simp only [takeA] at e
    obtain ⟨d, e0, e⟩ := bnd e
    obtain ⟨⟨ds', ρ2⟩, e1, e2⟩ := mpd e
    cases e2
    simp only [RefOk] at r
    have h0 : SR K Gf N H ((rootsA vs ods ++ ts) ++ σ.zip ρ) := by rw [List.append_assoc]; exact SR.drop h
    have h1 := h0.take e0 r.1
    have h1' : SR K Gf N H (rootsA vs ods ++ ((tmp v d :: ts) ++ σ.zip (ρ.set i none))) := by
      rw [List.append_assoc] at h1
      exact SR.fromFront (r := tmp v d) h1
    obtain ⟨h2, l, l'⟩ := take_ok (as := as) h1' r.2 e1
    exact ⟨SR.toFront (r := tmp v d) h2, by simp [l], by rw [l', len_set]⟩
theorem put_ok : ∀ {as : As} {vs : List V} {os : List (Option D)} {ρ ρ' : Env} {ts : List Root}, SR K Gf N H (rootsA vs os ++ (ts ++ σ.zip ρ)) → σ.length = ρ.length → RefOk σ as vs → putA as os ρ = some ρ' →
    SR K Gf N H (ts ++ σ.zip ρ') ∧ ρ'.length = ρ.length
  | .nil, [], [], ρ, ρ', ts, h, _, _, e => by
    simp only [putA, Option.some.injEq] at e
    subst e
    exact ⟨h, rfl⟩
  | .nil, _ :: _, _, _, _, _, _, _, r, _ => by simp [RefOk] at r
  | .nil, [], _ :: _, _, _, _, _, _, _, e => by simp [putA] at e
  | .cons _ _, [], _, _, _, _, _, _, r, _ => by simp [RefOk] at r
  | .cons (.val _) as, v :: vs, [], _, _, _, _, _, _, e => by simp [putA] at e
  | .cons (.ref _) as, v :: vs, [], _, _, _, _, _, _, e => by simp [putA] at e
  | .cons (.ref _) as, v :: vs, none :: os, _, _, _, _, _, _, e => by simp [putA] at e
  | .cons (.val _) as, v :: vs, o :: os, ρ, ρ', ts, h, hl, r, e => by
    simp only [putA] at e
    exact put_ok (as := as) (SR.drop h) hl (by simpa [RefOk] using r) e
  | .cons (.ref i) as, v :: vs, some d :: os, ρ, ρ', ts, h, hl, r, e => by
    simp only [putA] at e
    simp only [RefOk] at r
    have hi : i < ρ.length := by rw [← hl]; exact (List.getElem?_eq_some_iff.mp r.1).1
    have h1 : SR K Gf N H (tmp v d :: ((rootsA vs os ++ ts) ++ σ.zip ρ)) := by rw [List.append_assoc]; exact h
    have h2 := h1.put hi r.1
    rw [List.append_assoc] at h2
    obtain ⟨h3, l⟩ := put_ok (as := as) h2 (by rw [len_set]; exact hl) r.2 e
    exact ⟨h3, by rw [l, len_set]⟩
end
/-- an exception x of the class cls with the dict d, beside the roots -/
def XSR (K : PySem.W.Frag) (Gf : Hp) (N : List Addr) (H : Hp) (cls : Value) (d : Option Addr) (x : Exn) (rs : List Root) : Prop :=
  cls = .ref (He.ga K x.c) ∧ match x.a with
    | none => d = none ∧ SR K Gf N H rs
    | some (f, y) => ∃ dd v, d = some dd ∧ H dd = some (.xd [(f, v)]) ∧ SR K Gf N H (tmp v y :: rs)
theorem XSR.imp {K : PySem.W.Frag} {Gf Gf' : Hp} {N N' : List Addr} {H : Hp} {cls : Value} {d : Option Addr} {x : Exn} {rs rs' : List Root} (h : XSR K Gf N H cls d x rs) (f : ∀ ts, SR K Gf N H (ts ++ rs) → SR K Gf' N' H (ts ++ rs')) : XSR K Gf' N' H cls d x rs' := by
  obtain ⟨c, a⟩ := x
  obtain ⟨h1, h2⟩ := h
  refine ⟨h1, ?_⟩
  cases a with
  | none => exact ⟨h2.1, f [] h2.2⟩
  | some p =>
    obtain ⟨dd, v, e1, e2, h3⟩ := h2
    exact ⟨dd, v, e1, e2, f [_] h3⟩
/-- what a def promises, from its evaluator -/
def spOf (K : PySem.W.Frag) (n : Nat) (φ : List D → Option (D × List (Option D))) (ψ : List D → Option (Exn × List (Option D))) : Sp := fun vs H Q E => ∃ Gf N ds, vs.length = ds.length ∧ vs.length = n ∧ SR K Gf N H (tmps vs ds) ∧
  ((∃ r, φ ds = some r ∧ ∀ v H', SR K Gf N H' (tmp v r.1 :: rootsA vs r.2) → Q v H') ∨ ∃ r, ψ ds = some r ∧ ∀ cls d H', XSR K Gf N H' cls d r.1 (rootsA vs r.2) → E cls d H')
/-- arguments, some of them names that are lent -/
def tArg (K : PySem.W.Frag) (as : As) (ev : Env → Option (List (Option D) × Env)) : TA := fun σ H Q => ∃ Gf N ts ρ, σ.length = ρ.length ∧ SR K Gf N H (ts ++ σ.zip ρ) ∧ ∃ p, ev ρ = some p ∧ ∀ vs H', RefOk σ as vs → SR K Gf N H' (rootsA vs p.1 ++ (ts ++ σ.zip p.2)) → Q vs H'
structure PXG (X : Cx) (es : List Expr) (as : As) (ev : Env → Option (List (Option D) × Env)) : Prop where
  pa : PA X es (tArg X.K as ev)
  ln : Ln ev
structure PX1 (X : Cx) (e : Expr) (x : A) (ev : Env → Option (Option D × Env)) : Prop where
  pe : PE X e (fun σ H Q => ∃ Gf N ts ρ, σ.length = ρ.length ∧ SR X.K Gf N H (ts ++ σ.zip ρ) ∧ ∃ p, ev ρ = some p ∧ ∀ v H', (∀ i, x = .ref i → σ[i]? = some (some v)) → SR X.K Gf N H' ((some v, p.1) :: (ts ++ σ.zip p.2)) → Q v H')
  ln : Ln ev
theorem px1_val {x : E} (h : PX X a ea) : PX1 X a (.val x) (fun ρ => (ea ρ).map fun p => (some p.1, p.2)) := by
  refine ⟨pe_imp h.pe fun σ H Q ⟨Gf, N, ts, ρ, hl, hs, p, e, q⟩ => ?_, fun ρ p e => ?_⟩
  · obtain ⟨pa, e1, rfl⟩ := mpd e
    exact ⟨Gf, N, ts, ρ, hl, hs, pa, e1, fun v H' h' => q v H' (fun i z => by cases z) h'⟩
  · obtain ⟨pa, e1, rfl⟩ := mpd e
    have := h.ln _ _ e1
    exact this
theorem px1_ref {i : Nat} (h : PE X a (tVar i)) : PX1 X a (.ref i) (fun ρ => (getS ρ i).map fun _ => (none, ρ)) := by
  refine ⟨pe_imp h fun σ H Q ⟨Gf, N, ts, ρ, hl, hs, p, e, q⟩ => ?_, fun ρ p e => ?_⟩
  · obtain ⟨d, e1, rfl⟩ := mpd e
    obtain ⟨v, ev⟩ := hs.slotV hl e1
    exact ⟨v, ev, q v H (fun j z => by cases z; exact ev) hs.skip⟩
  · obtain ⟨d, e1, rfl⟩ := mpd e
    rfl
theorem pxg_nil : PXG X [] .nil (fun ρ => some ([], ρ)) := ⟨pa_imp pa_nil fun σ H Q ⟨Gf, N, ts, ρ, hl, hs, p, e, q⟩ => by cases e; exact q [] _ trivial hs, fun ρ p e => by cases e; rfl⟩
theorem pxg_cons {x : A} {as : As} {ex : Env → Option (Option D × Env)} {er : Env → Option (List (Option D) × Env)} (ha : PX1 X a x ex) (hr : PXG X es as er) (hs : starEach (a :: es) X.env = (false, eval a X.env) :: starEach es X.env) :
    PXG X (a :: es) (.cons x as) (fun ρ => (ex ρ).bind fun p => (er p.2).map fun q => (p.1 :: q.1, q.2)) := by
  refine ⟨pa_imp (pa_cons ha.pe hr.pa hs) fun σ H Q ⟨Gf, N, ts, ρ, hl, hs, p, e, q⟩ => ?_, fun ρ p e => ?_⟩
  · obtain ⟨pa, e1, e⟩ := bnd e
    obtain ⟨pr, e2, rfl⟩ := mpd e
    refine ⟨Gf, N, ts, ρ, hl, hs, pa, e1, fun v H1 rf h1 => ⟨Gf, N, (some v, pa.1) :: ts, pa.2, by rw [ha.ln _ _ e1]; exact hl, h1, pr, e2, fun vs H2 r2 h2 => ?_⟩⟩
    refine q (v :: vs) H2 ?_ (SR.toFront h2)
    cases x with
    | val x => exact r2
    | ref i => exact ⟨rf i rfl, r2⟩
  · obtain ⟨pa, e1, e⟩ := bnd e
    obtain ⟨pr, e2, rfl⟩ := mpd e
    show pr.2.length = _
    rw [hr.ln _ _ e2, ha.ln _ _ e1]
theorem tmps_nil_append {K : PySem.W.Frag} {H Gf : Hp} {N : List Addr} {rs : List Root} (h : SR K Gf N H (rs ++ [])) : SR K Gf N H rs := by rwa [List.append_nil] at h
/-- the callee, from the arguments' roots -/
theorem call_sp {K : PySem.W.Frag} {H Gf : Hp} {N : List Addr} {rs : List Root} {vs : List V} {ds : List D} {n : Nat} {φ : List D → Option (D × List (Option D))} {ψ : List D → Option (Exn × List (Option D))} {r : D × List (Option D)} {Q : VK} {E : XK}
    (h : SR K Gf N H (tmps vs ds ++ rs)) (hl : vs.length = ds.length) (hn : vs.length = n) (e : φ ds = some r) (q : ∀ v H', SR K Gf N H' (tmp v r.1 :: (rootsA vs r.2 ++ rs)) → Q v H') : spOf K n φ ψ vs H Q E := by
  obtain ⟨Gf', N', h1, f⟩ := h.frame
  exact ⟨Gf', N', ds, hl, hn, h1, .inl ⟨r, e, fun v H' h2 => q v H' (f H' _ h2)⟩⟩
theorem call_spX {K : PySem.W.Frag} {H Gf : Hp} {N : List Addr} {rs : List Root} {vs : List V} {ds : List D} {n : Nat} {φ : List D → Option (D × List (Option D))} {ψ : List D → Option (Exn × List (Option D))} {r : Exn × List (Option D)} {Q : VK} {E : XK}
    (h : SR K Gf N H (tmps vs ds ++ rs)) (hl : vs.length = ds.length) (hn : vs.length = n) (e : ψ ds = some r) (q : ∀ cls d H', XSR K Gf N H' cls d r.1 (rootsA vs r.2 ++ rs) → E cls d H') : spOf K n φ ψ vs H Q E := by
  obtain ⟨Gf', N', h1, f⟩ := h.frame
  exact ⟨Gf', N', ds, hl, hn, h1, .inr ⟨r, e, fun cls d H' h2 => q cls d H' (h2.imp fun ts h3 => by rw [← List.append_assoc]; exact f H' _ h3)⟩⟩
def callE (φ : List D → Option (D × List (Option D))) (as : As) (er : Env → Option (List (Option D) × Env)) : Env → Option (D × Env) := fun ρ => (er ρ).bind fun p => (takeA as p.1 p.2).bind fun q => (φ q.1).bind fun r => (putA as r.2 q.2).map fun ρ' => (r.1, ρ')
theorem takeA_len : ∀ {as : As} {ods : List (Option D)} {ρ : Env} {p : List D × Env}, takeA as ods ρ = some p → p.2.length = ρ.length
  | .nil, [], ρ, p, e => by simp only [takeA] at e; cases e; rfl
  | .nil, _ :: _, _, _, e => by simp [takeA] at e
  | .cons (.val _) as, [], _, _, e => by simp [takeA] at e
  | .cons (.ref _) as, [], _, _, e => by simp [takeA] at e
  | .cons (.val _) as, none :: _, _, _, e => by simp [takeA] at e
  | .cons (.ref _) as, some _ :: _, _, _, e => by simp [takeA] at e
  | .cons (.val _) as, some d :: ds, ρ, p, e => by
    simp only [takeA] at e
    obtain ⟨q, e1, rfl⟩ := mpd e
    have := takeA_len (as := as) e1
    exact this
  | .cons (.ref i) as, none :: ds, ρ, p, e => by
    simp only [takeA] at e
    obtain ⟨d, _, e⟩ := bnd e
    obtain ⟨q, e1, rfl⟩ := mpd e
    show q.2.length = _
    rw [takeA_len (as := as) e1, len_set]
theorem putA_len : ∀ {as : As} {os : List (Option D)} {ρ ρ' : Env}, putA as os ρ = some ρ' → ρ'.length = ρ.length
  | .nil, [], ρ, p, e => by simp only [putA] at e; cases e; rfl
  | .nil, _ :: _, _, _, e => by simp [putA] at e
  | .cons (.val _) as, [], _, _, e => by simp [putA] at e
  | .cons (.ref _) as, [], _, _, e => by simp [putA] at e
  | .cons (.ref _) as, none :: _, _, _, e => by simp [putA] at e
  | .cons (.val _) as, o :: os, ρ, p, e => by
    simp only [putA] at e
    exact putA_len (as := as) e
  | .cons (.ref i) as, some d :: os, ρ, p, e => by
    simp only [putA] at e
    rw [putA_len (as := as) e, len_set]
theorem callE_ln {φ : List D → Option (D × List (Option D))} {as : As} {er : Env → Option (List (Option D) × Env)} (lr : Ln er) : Ln (callE φ as er) := fun ρ p e => by
  obtain ⟨pr, e1, e⟩ := bnd e
  obtain ⟨⟨ds, ρ2⟩, e2, e⟩ := bnd e
  obtain ⟨r, e3, e⟩ := bnd e
  obtain ⟨ρ3, e4, rfl⟩ := mpd e
  show ρ3.length = _
  rw [putA_len e4]
  have := takeA_len e2
  rw [this]; exact lr _ _ e1
theorem px_callF {φ : List D → Option (D × List (Option D))} {ψ : List D → Option (Exn × List (Option D))} {n : Nat} {as : As} {er : Env → Option (List (Option D) × Env)} {E : XK} (hn : ∀ ds r, φ ds = some r → ds.length = n) (hr : PXG X es as er) (h : PE X e (tCall (spOf X.K n φ ψ) [] E (tArg X.K as er))) : PX X e (callE φ as er) := by
  refine ⟨pe_imp h fun σ H Q ⟨Gf, N, ts, ρ, hl, hs, p, e, q⟩ => ?_, callE_ln hr.ln⟩
  obtain ⟨pr, e1, e⟩ := bnd e
  obtain ⟨⟨ds, ρ2⟩, e2, e⟩ := bnd e
  obtain ⟨r, e3, e⟩ := bnd e
  obtain ⟨ρ3, e4, rfl⟩ := mpd e
  refine ⟨Gf, N, ts, ρ, hl, hs, pr, e1, fun vs H1 rf h1 => ?_⟩
  obtain ⟨h2, l, l2⟩ := take_ok h1 rf e2
  show spOf X.K n φ ψ (vs ++ []) H1 Q E
  rw [List.append_nil]
  refine call_sp h2 l (by rw [l]; exact hn _ _ e3) e3 fun v H' h3 => q v H' ?_
  have h4 : SR X.K Gf N H' (rootsA vs r.2 ++ ((tmp v r.1 :: ts) ++ σ.zip ρ2)) := SR.fromFront (r := tmp v r.1) h3
  exact (put_ok h4 (by rw [l2, hr.ln _ _ e1]; exact hl) rf e4).1
end
/-! ### shared values, len of a name -/
section
variable {X : Cx} {a e : Expr} {ea : Env → Option (D × Env)}
theorem px_shr (h : PX X a ea) : PX X a (fun ρ => (ea ρ).map fun p => (share p.1, p.2)) := by
  refine ⟨pe_imp h.pe fun σ H Q ⟨Gf, N, ts, ρ, hl, hs, p, e, q⟩ => ?_, fun ρ p e => ?_⟩
  · obtain ⟨p0, e1, rfl⟩ := mpd e
    exact ⟨Gf, N, ts, ρ, hl, hs, p0, e1, fun v H' h1 => q v H' h1.share1⟩
  · obtain ⟨p0, e1, rfl⟩ := mpd e
    exact h.ln ρ p0 e1
theorem asT_shr (ρ : Env) : asT (fun ρ => (ea ρ).map fun p => (share p.1, p.2)) ρ = asT ea ρ := by
  show ((ea ρ).map _).bind _ = (ea ρ).bind _
  cases ea ρ with
  | none => rfl
  | some p =>
    obtain ⟨d, r⟩ := p
    cases d <;> simp only [Option.map_some, Option.bind_some, share]
theorem pxt_shr (h : PXT X a (asT ea)) : PXT X a (asT fun ρ => (ea ρ).map fun p => (share p.1, p.2)) := PXT.cg h asT_shr
theorem pt_ifExp {c a b : Expr} {pos : Pos} {tA ta tb : TT} (hc : PT X c tA) (ha : PT X a ta) (hb : PT X b tb) : PT X (.IfExp c a b pos) (fun σ H Q => tA σ H fun d H1 => if d = true then ta σ H1 Q else tb σ H1 Q) := by
  refine ⟨fun pins s σ H Q I h => ?_⟩
  show wpAny _ _ (do if ← PySem.isTrue c X.env (eval c X.env) then PySem.isTrue a X.env (eval a X.env) else PySem.isTrue b X.env (eval b X.env)) _ _ _
  refine wpAny_bind (thn (hc.run pins s σ H _ I h) fun d s1 ⟨H1, I1, q1⟩ => ?_)
  cases d with
  | true => exact ha.run pins s1 σ H1 Q I1 q1
  | false => exact hb.run pins s1 σ H1 Q I1 q1
theorem pxt_ite {c a b : Expr} {pos : Pos} {ec eb : Env → Option (D × Env)} (hc : PXT X c (asT ec)) (lc : Ln ec) (ha : PXT X a (asT ea)) (hb : PXT X b (asT eb)) (la : Ln ea) (lb : Ln eb) : PXT X (.IfExp c a b pos) (asT (iteE ec ea eb)) := by
  refine ⟨pt_imp (pt_ifExp hc.pt ha.pt hb.pt) fun σ H Q ⟨Gf, N, ts, ρ, hl, hs, p, e, q⟩ => ?_, fun ρ p e => ?_⟩
  · obtain ⟨ρ', ⟨e1, e2⟩ | ⟨e1, e2⟩⟩ := iteE_some (asT_some e)
    · refine ⟨Gf, N, ts, ρ, hl, hs, (true, ρ'), asT_bl e1, fun H1 h1 => ?_⟩
      simp only [if_pos]
      exact ⟨Gf, N, ts, ρ', hl.trans (lc _ _ e1).symm, h1, p, asT_bl e2, q⟩
    · refine ⟨Gf, N, ts, ρ, hl, hs, (false, ρ'), asT_bl e1, fun H1 h1 => ?_⟩
      simp only [Bool.false_eq_true, if_false]
      exact ⟨Gf, N, ts, ρ', hl.trans (lc _ _ e1).symm, h1, p, asT_bl e2, q⟩
  · obtain ⟨ρ', ⟨e1, e2⟩ | ⟨e1, e2⟩⟩ := iteE_some (asT_some e)
    · have := la _ _ e2; have := lc _ _ e1; simp only at *; omega
    · have := lb _ _ e2; have := lc _ _ e1; simp only at *; omega
theorem px_lnv {i : Nat} (h : PE X e (tCB (rBl X.K .len) (tCons (tVar i) tNil))) : PX X e (fun ρ => (getS ρ i).bind fun d => (lenD d).map fun n => (n, ρ)) := by
  refine ⟨pe_imp h fun σ H Q ⟨Gf, N, ts, ρ, hl, hs, p, e, q⟩ => ?_, fun ρ p e => ?_⟩
  · obtain ⟨d, e1, e⟩ := bnd e
    obtain ⟨n, e2, rfl⟩ := mpd e
    obtain ⟨v, ev⟩ := hs.slotV hl e1
    have h1 := hs.take e1 ev
    refine ⟨v, ev, ?_⟩
    cases d <;> simp only [lenD, reduceCtorEq] at e2 <;> cases e2
    · obtain ⟨a, ys, rfl, c, l⟩ := h1.contV rfl
      refine ⟨a, ys, rfl, .inr c, ?_⟩
      rw [l]; exact q _ _ (hs.flat (.int _))
    · obtain ⟨a, ys, rfl, c, l⟩ := h1.contV rfl
      refine ⟨a, ys, rfl, .inl c.1, ?_⟩
      rw [l]; exact q _ _ (hs.flat (.int _))
  · obtain ⟨d, e1, e⟩ := bnd e
    obtain ⟨n, e2, rfl⟩ := mpd e
    rfl
end
/-! ### borrowing: a look at everything, as shared; what comes back leans on nothing -/
section
variable {K : PySem.W.Frag} {G G2 H H' Gf : Hp} {N : List Addr} {rs : List Root} {v : V} {d : D}
/-- what stands at an own address -/
def OwnO (o : HO) : Prop := (∃ vs, o = .lst vs) ∨ ∃ c dx fs, o = .ins c dx fs
mutual
theorem Rep.ownO : ∀ {v : V} {d : D} {F : List Addr}, Rep K G H v d F → ∀ a ∈ F, ∃ o, H a = some o ∧ OwnO o
  | _, _, _, .non => fun _ h => by simp at h
  | _, _, _, .bl b => fun _ h => by simp at h
  | _, _, _, .int i => fun _ h => by simp at h
  | _, _, _, .str x => fun _ h => by simp at h
  | _, _, _, .hole v => fun _ h => by simp at h
  | _, _, _, .dic s => fun _ h => by simp at h
  | _, _, _, .any v => fun _ h => by simp at h
  | _, _, _, .tup s r => Reps.ownO r
  | _, _, _, .lstF s r => fun _ h => by simp at h
  | _, _, _, .lstS s r => fun _ h => by simp at h
  | _, _, _, .lstO (a := a) s r => fun b h => by
    rcases List.mem_cons.mp h with e | h
    · subst e; exact ⟨_, s, .inl ⟨_, rfl⟩⟩
    · exact Reps.ownO r b h
  | _, _, _, .objS s l r => fun _ h => by simp at h
  | _, _, _, .objO (a := a) s l r => fun b h => by
    rcases List.mem_cons.mp h with e | h
    · subst e; exact ⟨_, s, .inr ⟨_, _, _, rfl⟩⟩
    · exact Reps.ownO r b h
theorem Reps.ownO : ∀ {vs : List V} {ds : List D} {F : List Addr}, Reps K G H vs ds F → ∀ a ∈ F, ∃ o, H a = some o ∧ OwnO o
  | _, _, _, .nil => fun _ h => by simp at h
  | _, _, _, .cons r t => fun b h => (List.mem_append.mp h).elim (fun z => Rep.ownO r b z) fun z => Reps.ownO t b z
end
theorem RepO.ownO {F : List Addr} (r : RepO K G H rs F) : ∀ a ∈ F, ∃ o, H a = some o ∧ OwnO o := by
  induction r with
  | nil => exact fun _ h => by simp at h
  | skip _ ih => exact ih
  | cons x _ ih => exact fun b h => (List.mem_append.mp h).elim (fun z => x.ownO b z) fun z => ih b z
mutual
theorem Rep.closed (hG : ∀ a vs, SqT K G a vs → SqT K G2 a vs) : ∀ {v : V} {d : D} {F : List Addr}, Rep K G H v d F → closedD d = true → Rep K G2 H v d F
  | _, _, _, .non, _ => .non
  | _, _, _, .bl b, _ => .bl b
  | _, _, _, .int i, _ => .int i
  | _, _, _, .str x, _ => .str x
  | _, _, _, .hole v, h => by simp [closedD] at h
  | _, _, _, .dic s, h => by simp [closedD] at h
  | _, _, _, .any v, h => by simp [closedD] at h
  | _, _, _, .tup s r, h => .tup (hG _ _ s) (Reps.closed hG r (by simpa [closedD] using h))
  | _, _, _, .lstF s r, h => by simp [closedD] at h
  | _, _, _, .lstS s r, h => by simp [closedD] at h
  | _, _, _, .lstO s r, h => .lstO s (Reps.closed hG r (by simpa [closedD] using h))
  | _, _, _, .objS s l r, h => by simp [closedD] at h
  | _, _, _, .objO s l r, h => .objO s l (Reps.closed hG r (by simpa [closedD] using h))
theorem Reps.closed (hG : ∀ a vs, SqT K G a vs → SqT K G2 a vs) : ∀ {vs : List V} {ds : List D} {F : List Addr}, Reps K G H vs ds F → closedL ds = true → Reps K G2 H vs ds F
  | _, _, _, .nil, _ => .nil
  | _, _, _, .cons r t, h => by
    simp only [closedL, Bool.and_eq_true] at h
    exact .cons (Rep.closed hG r h.1) (Reps.closed hG t h.2)
end
theorem RepO.view {F : List Addr} (le : Le G G2) : ∀ {σ : L2.St} {ρ : Env}, RepO K G H (σ.zip ρ) F → (∀ a ∈ F, G2 a = H a) → RepO K G2 H (σ.zip (viewD ρ)) [] := by
  intro σ
  induction σ generalizing F with
  | nil => intro ρ r _; simp only [List.zip_nil_left]; exact .nil
  | cons o σ ih =>
    intro ρ r h
    cases ρ with
    | nil => simp only [viewD, List.map_nil, List.zip_nil_right]; exact .nil
    | cons x ρ =>
      simp only [List.zip_cons_cons] at r
      cases r with
      | skip r => simp only [viewD, List.map_cons, List.zip_cons_cons, Option.map_none]; exact .skip (ih r h)
      | cons y r =>
        simp only [viewD, List.map_cons, List.zip_cons_cons, Option.map_some]
        exact RepO.cons (F1 := []) (F2 := []) (y.share le fun a ha => h a (List.mem_append_left _ ha)) (ih r fun a ha => h a (List.mem_append_right _ ha))
theorem SR.view {ts : List Root} {σ : L2.St} {ρ : Env} (h : SR K Gf N H (ts ++ σ.zip ρ)) : SR K H N H (σ.zip (viewD ρ)) := by
  obtain ⟨n, F, nd, r, g⟩ := h
  obtain ⟨F1, F2, rfl, _, r2⟩ := r.split
  refine ⟨fun a ha => ?_, [], by simp, ?_, fun a o e => hid_some.mpr ⟨by simp, e⟩⟩
  · obtain ⟨o, e⟩ := n a ha
    exact ⟨o, (hid_some.mp (g a o e)).2⟩
  · refine RepO.view (G := hid (F1 ++ F2 ++ N) H) (hid_mono fun a ha => ?_) r2 fun a ha => hid_out fun z => ?_
    · simp only [List.nil_append] at ha
      exact List.mem_append_right _ ha
    · simp only [List.nil_append] at z
      obtain ⟨o, e⟩ := n a z
      exact (hid_some.mp (g a o e)).1 (List.mem_append_right _ ha)
theorem SR.unview {rs' : List Root} (h : SR K Gf N H rs) (h' : SR K H N H' (tmp v d :: rs')) (hc : closedD d = true) : SR K Gf N H' (tmp v d :: rs) := by
  obtain ⟨n, F, nd, r, g⟩ := h
  obtain ⟨n', F', nd', r', g'⟩ := h'
  have up : ∀ a o, H a = some o → H' a = some o ∧ a ∉ F' := fun a o e => by
    have := hid_some.mp (g' a o e)
    exact ⟨this.2, this.1⟩
  have keep : ∀ a ∈ F, H' a = H a := fun a ha => by
    obtain ⟨o, e⟩ := r.dom a ha
    rw [e]; exact (up a o e).1
  cases r' with
  | @cons _ _ _ F1 F2 x _ =>
    have dj : ∀ a ∈ F1, a ∉ F := fun a ha z => by
      obtain ⟨o, e⟩ := r.dom a z
      exact (up a o e).2 (List.mem_append_left _ ha)
    refine ⟨n, F1 ++ F, List.nodup_append.mpr ⟨(List.nodup_append.mp nd').1, nd, fun a ha b hb e => dj a ha (e ▸ hb)⟩, .cons (x.closed (fun a vs s => ?_) hc) (r.mono (fun a o e => ?_) keep), fun a o e => ?_⟩
    · have tr : ∀ u : HO, hid (F1 ++ F2 ++ N) H' a = some u → ¬ OwnO u → hid (F1 ++ F ++ N) H' a = some u := fun u e no => by
        obtain ⟨z, e⟩ := hid_some.mp e
        refine hid_some.mpr ⟨fun q => ?_, e⟩
        simp only [List.mem_append, not_or] at z q
        rcases q with (q | q) | q
        · exact z.1.1 q
        · obtain ⟨o, e1, oo⟩ := r.ownO a q
          rw [← keep a q, e] at e1
          cases e1
          exact no oo
        · exact z.2 q
      rcases s with (s | ⟨o, s⟩) | s
      · exact .inl (.inl (tr _ s (by rintro (⟨_, z⟩ | ⟨_, _, _, z⟩) <;> cases z)))
      · exact .inl (.inr ⟨o, tr _ s (by rintro (⟨_, z⟩ | ⟨_, _, _, z⟩) <;> cases z)⟩)
      · exact .inr s
    · obtain ⟨z, e⟩ := hid_some.mp e
      obtain ⟨e', z'⟩ := up a o e
      refine hid_some.mpr ⟨fun q => ?_, e'⟩
      simp only [List.mem_append, not_or] at z q z'
      rcases q with (q | q) | q
      · exact z'.1 q
      · exact z.1 q
      · exact z.2 q
    · obtain ⟨z, e⟩ := hid_some.mp (g a o e)
      obtain ⟨e', z'⟩ := up a o e
      refine hid_some.mpr ⟨fun q => ?_, e'⟩
      simp only [List.mem_append, not_or] at q z'
      rcases q with q | q
      · exact z'.1 q
      · exact z q
end
section
variable {X : Cx} {a : Expr} {ea : Env → Option (D × Env)}
def borE (ea : Env → Option (D × Env)) : Env → Option (D × Env) := fun ρ => (ea (viewD ρ)).bind fun p => if closedD p.1 = true then some (p.1, ρ) else none
theorem borE_some {ρ : Env} {p : D × Env} (h : borE ea ρ = some p) : ∃ ρ', ea (viewD ρ) = some (p.1, ρ') ∧ closedD p.1 = true ∧ p.2 = ρ := by
  obtain ⟨q, e1, e⟩ := bnd h
  split at e
  · rename_i hc
    cases e
    exact ⟨q.2, e1, hc, rfl⟩
  · cases e
theorem view_len (ρ : Env) : (viewD ρ).length = ρ.length := by simp [viewD]
theorem px_bor (h : PX X a ea) : PX X a (borE ea) := by
  refine ⟨pe_imp h.pe fun σ H Q ⟨Gf, N, ts, ρ, hl, hs, p, e, q⟩ => ?_, fun ρ p e => ?_⟩
  · obtain ⟨ρ', e1, hc, e2⟩ := borE_some e
    refine ⟨H, N, [], viewD ρ, by rw [view_len]; exact hl, hs.view, _, e1, fun v H' h1 => q v H' ?_⟩
    rw [e2]
    exact hs.unview h1 hc
  · obtain ⟨ρ', e1, hc, e2⟩ := borE_some e
    rw [e2]
theorem pxt_bor (h : PXT X a (asT ea)) : PXT X a (asT (borE ea)) := by
  refine ⟨pt_imp h.pt fun σ H Q ⟨Gf, N, ts, ρ, hl, hs, p, e, q⟩ => ?_, fun ρ p e => ?_⟩
  · obtain ⟨ρ', e1, hc, e2⟩ := borE_some (asT_some e)
    refine ⟨H, N, [], viewD ρ, by rw [view_len]; exact hl, hs.view, (p.1, ρ'), asT_bl e1, fun H' h1 => q H' ?_⟩
    simp only at e2
    rw [e2]
    have h2 : SR X.K H N H' (tmp (.bl p.1) (.bl p.1) :: σ.zip ρ') := SR.flat h1 (.bl _)
    exact (hs.unview h2 rfl).drop
  · obtain ⟨ρ', e1, hc, e2⟩ := borE_some (asT_some e)
    simp only at e2
    rw [e2]
end
end FL

/-! F9: methods, making, what is walked, targets, comprehensions. -/
namespace FL
open PySem PySem.Spec PyProof.Rows L2 StX
theorem pe_any {X : Cx} {e : Expr} {t' : TE} (f : ∀ σ H Q, t' σ H Q → ∃ t, PE X e t ∧ t σ H Q) : PE X e t' := ⟨fun pins s σ H Q I q => by
  obtain ⟨t, h, q'⟩ := f σ H Q q
  exact h.run pins s σ H Q I q'⟩
theorem lookup_zip_none : ∀ {ns : List Str} {vs : List V} {m : Str}, ns.contains m = false → (ns.zip vs).lookup m = none
  | [], _, _, _ => rfl
  | _ :: _, [], _, _ => rfl
  | n :: ns, v :: vs, m, h => by
    simp only [List.contains_cons, Bool.or_eq_false_iff] at h
    simp only [List.zip_cons_cons, List.lookup, h.1]
    exact lookup_zip_none h.2
section
variable {X : Cx} {a b c e : Expr} {es rest : List Expr} {pos : Pos} {ea eb ec : Env → Option (D × Env)}
/-! ### methods -/
def methE (Φ : Fs) (ms : List ((Str × Str) × Nat)) (m : Str) (o : A) (as : As) (ex : Env → Option (Option D × Env)) (er : Env → Option (List (Option D) × Env)) : Env → Option (D × Env) := fun ρ =>
  (ex ρ).bind fun x => (recvD o x.1 x.2).bind fun s => (methD ms m s).bind fun f => (er x.2).bind fun p => (takeA (.cons o as) (x.1 :: p.1) p.2).bind fun q => (Φ f q.1).bind fun r => (putA (.cons o as) r.2 q.2).map fun ρ' => (r.1, ρ')
theorem methD_some {ms : List ((Str × Str) × Nat)} {m : Str} {s : D} {f : Nat} (h : methD ms m s = some f) : ∃ o c ns ds, s = .obj o c ns ds ∧ ns.contains m = false ∧ ((c, m), f) ∈ ms := by
  unfold methD at h
  split at h
  · rename_i o c ns ds
    split at h
    · cases h
    · rename_i hn
      obtain ⟨q, e1, rfl⟩ := mpd h
      have hm := List.mem_of_find?_eq_some e1
      have hp := List.find?_some e1
      have := of_decide_eq_true hp
      refine ⟨o, c, ns, ds, rfl, by simpa using hn, ?_⟩
      rw [← this]; exact hm
  · cases h
theorem recv_facts {K : PySem.W.Frag} {Gf H : Hp} {N : List Addr} {ts : List Root} {σ : L2.St} {ρ : Env} {x : A} {v : V} {ox : Option D} {o : Fl} {c : Str} {ns : List Str} {ds : List D}
    (h : SR K Gf N H ((some v, ox) :: (ts ++ σ.zip ρ))) (rf : ∀ i, x = .ref i → σ[i]? = some (some v)) (e : recvD x ox ρ = some (.obj o c ns ds)) : ∃ a dx vs, v = .ref a ∧ H a = some (.ins (He.ga K c) dx (ns.zip vs)) := by
  cases x with
  | val y =>
    have e' : ox = some (.obj o c ns ds) := e
    subst e'
    obtain ⟨a, vs, ev, ⟨_, dx, ea⟩, _⟩ := SR.contV (v := v) h rfl
    exact ⟨a, dx, vs, ev, ea⟩
  | ref i =>
    have e' : getS ρ i = some (.obj o c ns ds) := e
    have h1 := SR.take (SR.drop h) e' (rf i rfl)
    obtain ⟨a, vs, ev, ⟨_, dx, ea⟩, _⟩ := h1.contV rfl
    exact ⟨a, dx, vs, ev, ea⟩
theorem px_meth {Φ : Fs} {Ψ : Fx} {ms : List ((Str × Str) × Nat)} {m : Str} {o : A} {as : As} {ex : Env → Option (Option D × Env)} {er : Env → Option (List (Option D) × Env)} {ar : Nat → Nat} {E : XK} (hn : ∀ f ds r, Φ f ds = some r → ds.length = ar f)
    (ho : PX1 X a o ex) (hr : PXG X es as er)
    (h : ∀ c f, ((c, m), f) ∈ ms → PE X e (tMeth (He.ga X.K c) m (spOf X.K (ar f) (Φ f) (Ψ f)) [] E (fun σ H Q => ∃ Gf N ts ρ, σ.length = ρ.length ∧ SR X.K Gf N H (ts ++ σ.zip ρ) ∧ ∃ p, ex ρ = some p ∧ ∀ v H', (∀ i, o = .ref i → σ[i]? = some (some v)) → SR X.K Gf N H' ((some v, p.1) :: (ts ++ σ.zip p.2)) → Q v H') (tArg X.K as er))) :
    PX X e (methE Φ ms m o as ex er) := by
  refine ⟨pe_any fun σ H Q ⟨Gf, N, ts, ρ, hl, hs, p, e, q⟩ => ?_, fun ρ p e => ?_⟩
  · obtain ⟨x, e1, e⟩ := bnd e
    obtain ⟨s, e2, e⟩ := bnd e
    obtain ⟨f, e3, e⟩ := bnd e
    obtain ⟨pr, e4, e⟩ := bnd e
    obtain ⟨⟨ds, ρ2⟩, e5, e⟩ := bnd e
    obtain ⟨r, e6, e⟩ := bnd e
    obtain ⟨ρ3, e7, rfl⟩ := mpd e
    obtain ⟨fl, c, ns, xs, rfl, hm, mem⟩ := methD_some e3
    refine ⟨_, h c f mem, Gf, N, ts, ρ, hl, hs, x, e1, fun v H1 rf h1 => ?_⟩
    obtain ⟨a, dx, vs, ev, ea⟩ := recv_facts h1 rf e2
    refine ⟨a, dx, _, ev, ea, lookup_zip_none hm, Gf, N, (some v, x.1) :: ts, x.2, by rw [ho.ln _ _ e1]; exact hl, h1, pr, e4, fun us H2 rf2 h2 => ?_⟩
    have rfc : RefOk σ (.cons o as) (v :: us) := by
      cases o with
      | val y => exact rf2
      | ref i => exact ⟨rf i rfl, rf2⟩
    have h2' : SR X.K Gf N H2 (rootsA (v :: us) (x.1 :: pr.1) ++ (ts ++ σ.zip pr.2)) := SR.toFront (r := (some v, x.1)) h2
    obtain ⟨h3, l, l2⟩ := take_ok h2' rfc e5
    show spOf X.K (ar f) (Φ f) (Ψ f) (v :: (us ++ [])) H2 Q E
    rw [List.append_nil]
    refine call_sp h3 l (by rw [l]; exact hn _ _ _ e6) e6 fun w H' h4 => q w H' ?_
    have h5 : SR X.K Gf N H' (rootsA (v :: us) r.2 ++ ((tmp w r.1 :: ts) ++ σ.zip ρ2)) := SR.fromFront (r := tmp w r.1) h4
    exact (put_ok h5 (by rw [l2, hr.ln _ _ e4, ho.ln _ _ e1]; exact hl) rfc e7).1
  · obtain ⟨x, e1, e⟩ := bnd e
    obtain ⟨s, e2, e⟩ := bnd e
    obtain ⟨f, e3, e⟩ := bnd e
    obtain ⟨pr, e4, e⟩ := bnd e
    obtain ⟨⟨ds, ρ2⟩, e5, e⟩ := bnd e
    obtain ⟨r, e6, e⟩ := bnd e
    obtain ⟨ρ3, e7, rfl⟩ := mpd e
    show ρ3.length = _
    rw [putA_len e7]
    have := takeA_len e5
    rw [this, hr.ln _ _ e4]; exact ho.ln _ _ e1
/-! ### C(..) -/
def makeE (φ : List D → Option (D × List (Option D))) (c : Str) (as : As) (er : Env → Option (List (Option D) × Env)) : Env → Option (D × Env) := fun ρ => (er ρ).bind fun p => (takeA as p.1 p.2).bind fun q => (φ (.obj .own c [] [] :: q.1)).bind fun r => match r with
    | (.non, some d :: os) => (putA as os q.2).map fun ρ' => (d, ρ')
    | _ => none
theorem makeE_some {φ : List D → Option (D × List (Option D))} {c : Str} {as : As} {er : Env → Option (List (Option D) × Env)} {ρ : Env} {p : D × Env} (h : makeE φ c as er ρ = some p) :
    ∃ pr ds ρ2 os, er ρ = some pr ∧ takeA as pr.1 pr.2 = some (ds, ρ2) ∧ φ (.obj .own c [] [] :: ds) = some (.non, some p.1 :: os) ∧ putA as os ρ2 = some p.2 := by
  obtain ⟨pr, e1, h⟩ := bnd h
  obtain ⟨⟨ds, ρ2⟩, e2, h⟩ := bnd h
  obtain ⟨r, e3, h⟩ := bnd h
  split at h
  · obtain ⟨ρ3, e4, rfl⟩ := mpd h
    exact ⟨pr, ds, ρ2, _, e1, e2, e3, e4⟩
  · cases h
theorem px_make {φ : List D → Option (D × List (Option D))} {ψ : List D → Option (Exn × List (Option D))} {n : Nat} {c : Str} {as : As} {er : Env → Option (List (Option D) × Env)} {E : XK} (hn : ∀ ds r, φ ds = some r → ds.length = n) (hr : PXG X es as er)
    (h : PE X e (tMake (He.ga X.K c) (spOf X.K n φ ψ) [] E (tArg X.K as er))) : PX X e (makeE φ c as er) := by
  refine ⟨pe_imp h fun σ H Q ⟨Gf, N, ts, ρ, hl, hs, p, e, q⟩ => ?_, fun ρ p e => ?_⟩
  · obtain ⟨pr, ds, ρ2, os, e1, e2, e3, e4⟩ := makeE_some e
    refine ⟨Gf, N, ts, ρ, hl, hs, pr, e1, fun vs H1 rf h1 x dx nx ndx ne => ?_⟩
    obtain ⟨h2, l, l2⟩ := take_ok h1 rf e2
    have nx' : (upd H1 dx (.own x)) x = none := by rw [upd_ne (fun z => ne z.symm)]; exact nx
    have h3 := (h2.newX (o := .own x) ndx).newO (c := c) (dx := dx) nx'
    rw [List.append_nil]
    refine call_sp (vs := .ref x :: vs) (ds := .obj .own c [] [] :: ds) h3 (by simp [l]) (by simp only [List.length_cons]; rw [l]; have := hn _ _ e3; simpa using this) e3 fun v H' h4 => ⟨h4.isNon, q _ _ ?_⟩
    have h5 : SR X.K Gf N H' (tmp (.ref x) p.1 :: (rootsA vs os ++ (ts ++ σ.zip ρ2))) := SR.drop h4
    have h6 : SR X.K Gf N H' (rootsA vs os ++ ((tmp (.ref x) p.1 :: ts) ++ σ.zip ρ2)) := SR.fromFront (r := tmp (.ref x) p.1) h5
    exact (put_ok h6 (by rw [l2, hr.ln _ _ e1]; exact hl) rf e4).1
  · obtain ⟨pr, ds, ρ2, os, e1, e2, e3, e4⟩ := makeE_some e
    rw [putA_len e4]
    have := takeA_len e2
    rw [this]; exact hr.ln _ _ e1
end
/-! ### what is walked -/
def Walks (K : PySem.W.Frag) (J : L2.It) (cs : List Root) (ds : List D) : Prop := ∀ {Gf : Hp} {N : List Addr} {H : Hp} {rs : List Root} (i : Nat), SR K Gf N H (cs ++ rs) →
  (∀ d, ds[i]? = some d → J.go i H ∧ ∀ x H', J.yld i H x H' → SR K Gf N H' (tmp x d :: (cs ++ rs))) ∧ (ds.length ≤ i → J.stop i H)
section
variable {K : PySem.W.Frag} {G H G' H' Gf : Hp} {N : List Addr} {rs : List Root} {v w : V} {d e : D}
theorem SR.peek (h : SR K Gf N H (tmp v d :: rs)) (hs : share d = d) (hc : isCont d = true) : ∃ (a : Addr) (vs : List V), v = .ref a ∧ Cont K H a vs d ∧ vs.length = (itemsD d).length ∧ ∀ (j : Nat) (x : D), (itemsD d)[j]? = some x → ∃ u : V, vs[j]? = some u ∧ SR K Gf N H (tmp u x :: tmp v d :: rs) := by
  obtain ⟨n, F, nd, r, g⟩ := h
  cases r with
  | cons y r =>
    rename_i Fy F2
    have e := y.sharedF hs
    subst e
    obtain ⟨a, vs, F0, F1, e, eF, c, q, _, mk⟩ := y.cont hid_le hc
    have e0 : F1 = [] := (List.append_eq_nil_iff.mp eF.symm).2
    subst e0
    refine ⟨a, vs, e, c, q.length, fun j x hj => ?_⟩
    obtain ⟨u, A, B, C, eu, e1, qq⟩ := q.get hj
    have eB : B = [] := (List.append_eq_nil_iff.mp (List.append_eq_nil_iff.mp e1.symm).2).1
    subst eB
    exact ⟨u, eu, n, [] ++ ([] ++ F2), nd, RepO.cons (F1 := []) qq (RepO.cons (F1 := []) y r), g⟩
theorem get_of_len {α β : Type} {xs : List α} {ys : List β} {i : Nat} (h : xs.length = ys.length) (hi : ys.length ≤ i) : xs.length ≤ i := by omega
theorem walks_list {f : Fl} {xs : List D} {a : Addr} (hs : share (.lst f xs) = .lst f xs) : Walks K (Itl K a) [tmp (.ref a) (.lst f xs)] xs := by
  intro Gf N H rs i h
  obtain ⟨a', vs, ev, c, l, p⟩ := SR.peek (v := .ref a) h hs rfl
  cases ev
  refine ⟨fun d hd => ?_, fun hi => ⟨vs, c.1, get_of_len l hi⟩⟩
  obtain ⟨u, eu, h2⟩ := p i d hd
  refine ⟨⟨vs, u, c.1, eu⟩, fun x H' y => ?_⟩
  obtain ⟨rfl, y⟩ := y
  have := y vs c.1
  rw [eu] at this
  cases this
  exact h2
theorem walks_tup {xs : List D} {a : Addr} (hs : share (.tup xs) = .tup xs) : Walks K (Itt K a) [tmp (.ref a) (.tup xs)] xs := by
  intro Gf N H rs i h
  obtain ⟨a', vs, ev, c, l, p⟩ := SR.peek (v := .ref a) h hs rfl
  cases ev
  refine ⟨fun d hd => ?_, fun hi => ⟨vs, c, get_of_len l hi⟩⟩
  obtain ⟨u, eu, h2⟩ := p i d hd
  refine ⟨⟨vs, u, c, eu⟩, fun x H' y => ?_⟩
  obtain ⟨rfl, y⟩ := y
  have := y vs c
  rw [eu] at this
  cases this
  exact h2
theorem rngL_get {lo : Int} {n i : Nat} {d : D} (h : (rngL lo n)[i]? = some d) : i < n ∧ d = .int (lo + (i : Int)) := by
  unfold rngL at h
  rw [List.getElem?_map] at h
  obtain ⟨k, e1, e2⟩ := mpd h
  have hi : i < n := by
    have := (List.getElem?_eq_some_iff.mp e1).1
    simpa using this
  rw [List.getElem?_range hi] at e1
  cases e1
  exact ⟨hi, e2.symm⟩
theorem walks_rng {lo : Int} {n : Nat} : Walks K (Itr lo n) [] (rngL lo n) := by
  intro Gf N H rs i h
  refine ⟨fun d hd => ?_, fun hi => show n ≤ i by simpa [rngL] using hi⟩
  obtain ⟨hi, rfl⟩ := rngL_get hd
  refine ⟨hi, fun x H' y => ?_⟩
  obtain ⟨rfl, rfl⟩ := y
  exact h.flat (.int _)
theorem zipL_get : ∀ {xs ys : List D} {i : Nat} {d : D}, (zipL xs ys)[i]? = some d → ∃ x y, xs[i]? = some x ∧ ys[i]? = some y ∧ d = .tup [x, y]
  | [], _, _, _, h => by simp [zipL] at h
  | _ :: _, [], _, _, h => by simp [zipL] at h
  | x :: xs, y :: ys, 0, d, h => by simp [zipL] at h; exact ⟨x, y, rfl, rfl, h.symm⟩
  | x :: xs, y :: ys, i + 1, d, h => by
    obtain ⟨a, b, h1, h2, h3⟩ := zipL_get (xs := xs) (ys := ys) (i := i) (by simpa [zipL] using h)
    exact ⟨a, b, by simpa using h1, by simpa using h2, h3⟩
theorem zipL_len : ∀ (xs ys : List D), (zipL xs ys).length = min xs.length ys.length
  | [], _ => by simp [zipL]
  | _ :: _, [] => by simp [zipL]
  | x :: xs, y :: ys => by simp [zipL, zipL_len xs ys]
theorem enumL_get : ∀ {xs : List D} {k i : Nat} {d : D}, (enumL k xs)[i]? = some d → ∃ x, xs[i]? = some x ∧ d = .tup [.int ((k + i : Nat) : Int), x]
  | [], _, _, _, h => by simp [enumL] at h
  | x :: xs, k, 0, d, h => by simp [enumL] at h; exact ⟨x, rfl, by rw [← h]; simp⟩
  | x :: xs, k, i + 1, d, h => by
    obtain ⟨a, h1, h2⟩ := enumL_get (xs := xs) (k := k + 1) (i := i) (by simpa [enumL] using h)
    exact ⟨a, by simpa using h1, by rw [h2]; congr 3; omega⟩
theorem enumL_len : ∀ (k : Nat) (xs : List D), (enumL k xs).length = xs.length
  | _, [] => rfl
  | k, x :: xs => by simp [enumL, enumL_len (k + 1) xs]
theorem walks_zip {f g : Fl} {xs ys : List D} {a b : Addr} (hs : share (.lst f xs) = .lst f xs) (ht : share (.lst g ys) = .lst g ys) : Walks K (Itz K a b) [tmp (.ref a) (.lst f xs), tmp (.ref b) (.lst g ys)] (zipL xs ys) := by
  intro Gf N H rs i h
  obtain ⟨a', vs, ev, c, l, p⟩ := SR.peek (v := .ref a) h hs rfl
  cases ev
  have h' : SR K Gf N H (tmp (.ref b) (.lst g ys) :: tmp (.ref a) (.lst f xs) :: rs) := SR.swap2 h
  obtain ⟨b', ws, ev, c', l', p'⟩ := SR.peek (v := .ref b) h' ht rfl
  cases ev
  refine ⟨fun d hd => ?_, fun hi => ?_⟩
  · obtain ⟨x, y, hx, hy, rfl⟩ := zipL_get hd
    obtain ⟨u, eu, h2⟩ := p i x hx
    obtain ⟨u', eu', h2'⟩ := p' i y hy
    refine ⟨⟨vs, ws, u, u', c.1, c'.1, eu, eu'⟩, fun z H' yy => ?_⟩
    obtain ⟨T, x1, x2, rfl, nT, rfl, f1, f2⟩ := yy
    have e1 := f1 vs c.1
    have e2 := f2 ws c'.1
    rw [eu] at e1; cases e1
    rw [eu'] at e2; cases e2
    have h3 : SR K Gf N H (tmp (.ref b) (.lst g ys) :: tmp u x :: tmp (.ref a) (.lst f xs) :: rs) := h2.perm ((List.Perm.cons _ (.swap _ _ _)).trans (.swap _ _ _))
    obtain ⟨b2, ws2, ev2, c2, l2, p2⟩ := SR.peek (v := .ref b) h3 ht rfl
    cases ev2
    obtain ⟨u2, eu2, h4⟩ := p2 i y hy
    have : ws2[i]? = some u' := f2 ws2 c2.1
    rw [eu2] at this; cases this
    have h5 : SR K Gf N H (tmps [u, u'] [x, y] ++ ([tmp (.ref a) (.lst f xs), tmp (.ref b) (.lst g ys)] ++ rs)) := by
      refine h4.perm ?_
      show (tmp u' y :: tmp (.ref b) (.lst g ys) :: tmp u x :: tmp (.ref a) (.lst f xs) :: rs).Perm (tmp u x :: tmp u' y :: tmp (.ref a) (.lst f xs) :: tmp (.ref b) (.lst g ys) :: rs)
      refine (List.Perm.cons _ (.swap _ _ _)).trans ((List.Perm.swap _ _ _).trans (.cons _ (.cons _ (.swap _ _ _))))
    exact h5.newT rfl nT
  · rw [zipL_len] at hi
    have l1 : vs.length = xs.length := l
    have l2 : ws.length = ys.length := l'
    exact ⟨vs, ws, c.1, c'.1, by rw [l1, l2]; omega⟩
theorem walks_enum {f : Fl} {xs : List D} {a : Addr} (hs : share (.lst f xs) = .lst f xs) : Walks K (Ite K a) [tmp (.ref a) (.lst f xs)] (enumL 0 xs) := by
  intro Gf N H rs i h
  obtain ⟨a', vs, ev, c, l, p⟩ := SR.peek (v := .ref a) h hs rfl
  cases ev
  refine ⟨fun d hd => ?_, fun hi => ⟨vs, c.1, get_of_len l (by rw [enumL_len] at hi; exact hi)⟩⟩
  obtain ⟨x, hx, rfl⟩ := enumL_get hd
  obtain ⟨u, eu, h2⟩ := p i x hx
  refine ⟨⟨vs, u, c.1, eu⟩, fun z H' yy => ?_⟩
  obtain ⟨T, x1, rfl, nT, rfl, f1⟩ := yy
  have e1 := f1 vs c.1
  rw [eu] at e1; cases e1
  have h5 : SR K Gf N H (tmps [.int (i : Nat), u] [.int ((0 + i : Nat) : Int), x] ++ ([tmp (.ref a) (.lst f xs)] ++ rs)) := by
    rw [Nat.zero_add]
    exact h2.flat (.int _)
  exact h5.newT rfl nT
end
end FL

/-! F10: iterators' readings, targets, comprehensions. -/
namespace FL
open PySem PySem.Spec PyProof.Rows L2 StX
def tIt (K : PySem.W.Frag) (ev : Env → Option (List D × Env)) : TI := fun σ H R => ∃ Gf N ts ρ, σ.length = ρ.length ∧ SR K Gf N H (ts ++ σ.zip ρ) ∧ ∃ p, ev ρ = some p ∧ ∀ J cs H', Walks K J cs p.1 → SR K Gf N H' (cs ++ (ts ++ σ.zip p.2)) → R J H'
structure PXI (X : Cx) (tg it : Expr) (ev : Env → Option (List D × Env)) : Prop where
  pi : PI X tg it (tIt X.K ev)
  ln : Ln ev
theorem pi_any {X : Cx} {tg it : Expr} {t' : TI} (f : ∀ σ H R, t' σ H R → ∃ t, PI X tg it t ∧ t σ H R) : PI X tg it t' := ⟨fun pins s σ H R I q => by
  obtain ⟨t, h, q'⟩ := f σ H R q
  exact h.run pins s σ H R I q'⟩
section
variable {X : Cx} {a b c e tg : Expr} {es rest : List Expr} {pos : Pos} {ea eb ec : Env → Option (D × Env)}
def seqE (ea : Env → Option (D × Env)) : Env → Option (List D × Env) := fun ρ => (ea ρ).bind fun p => match p.1 with
    | .lst _ xs => some (shares xs, p.2)
    | .tup xs => some (shares xs, p.2)
    | _ => none
theorem pxi_seq (ha : PX X a ea) (h1 : PI X tg a (iList X.K (tI X.K ea))) (h2 : PI X tg a (iTup X.K (tI X.K ea))) : PXI X tg a (seqE ea) := by
  refine ⟨pi_any fun σ H Q ⟨Gf, N, ts, ρ, hl, hs, p, e, q⟩ => ?_, fun ρ p e => ?_⟩
  · obtain ⟨⟨d, ρ'⟩, e1, e⟩ := bnd e
    cases d with
    | lst f xs =>
      cases e
      refine ⟨_, h1, Gf, N, ts, ρ, hl, hs, _, e1, fun x H1 h => ?_⟩
      obtain ⟨a, vs, ev, cc, l⟩ := h.contV rfl
      have h' := h.share1
      rw [share_lst] at h'
      subst ev
      exact ⟨a, rfl, ⟨vs, cc.1⟩, q _ _ _ (walks_list (by simp [share, Fl.sh_sh, shares_shares])) h'⟩
    | tup xs =>
      cases e
      refine ⟨_, h2, Gf, N, ts, ρ, hl, hs, _, e1, fun x H1 h => ?_⟩
      obtain ⟨a, vs, ev, cc, l⟩ := h.contV rfl
      have h' := h.share1
      rw [share_tup] at h'
      subst ev
      exact ⟨a, rfl, ⟨vs, cc⟩, q _ _ _ (walks_tup (by simp [share, shares_shares])) h'⟩
    | _ => cases e
  · obtain ⟨⟨d, ρ'⟩, e1, e⟩ := bnd e
    cases d <;> simp only [reduceCtorEq] at e <;> (cases e; exact ha.ln _ _ e1)
noncomputable def rngE (ea : Env → Option (D × Env)) : Env → Option (List D × Env) := fun ρ => (ea ρ).bind fun p => match p.1 with
    | .int n => @ite _ (-(2 ^ 62) ≤ n ∧ n < 2 ^ 62) (Classical.propDecidable _) (some (rngL 0 n.toNat, p.2)) none
    | _ => none
theorem pi_imp {tg it : Expr} {t t' : TI} (h : PI X tg it t) (f : ∀ σ H R, t' σ H R → t σ H R) : PI X tg it t' := ⟨fun pins s σ H R I q => h.run pins s σ H R I (f σ H R q)⟩
theorem pxi_rng (la : Ln ea) (h : PI X tg e (iRng1 (tCons (tI X.K ea) tNil))) : PXI X tg e (rngE ea) := by
  refine ⟨pi_imp h fun σ H Q ⟨Gf, N, ts, ρ, hl, hs, p, e, q⟩ => ?_, fun ρ p e => ?_⟩
  · obtain ⟨⟨d, ρ'⟩, e1, e⟩ := bnd e
    cases d with
    | int n =>
      simp only at e
      split at e
      · rename_i hn
        cases e
        refine ⟨Gf, N, ts, ρ, hl, hs, _, e1, fun x H1 h => ⟨n, by rw [h.isInt], hn.1, hn.2, q _ [] _ walks_rng h.drop⟩⟩
      · cases e
    | _ => cases e
  · obtain ⟨⟨d, ρ'⟩, e1, e⟩ := bnd e
    cases d with
    | int n =>
      simp only at e
      split at e
      · cases e; exact la _ _ e1
      · cases e
    | _ => cases e
noncomputable def rng2E (ea eb : Env → Option (D × Env)) : Env → Option (List D × Env) := fun ρ => (ea ρ).bind fun p => (eb p.2).bind fun q => match p.1, q.1 with
    | .int i, .int j => @ite _ (-(2 ^ 62) ≤ i ∧ i < 2 ^ 62 ∧ -(2 ^ 62) ≤ j ∧ j < 2 ^ 62) (Classical.propDecidable _) (some (rngL i (j - i).toNat, q.2)) none
    | _, _ => none
theorem rng2E_some {ρ : Env} {p : List D × Env} (h : rng2E ea eb ρ = some p) : ∃ i j ρ1, ea ρ = some (.int i, ρ1) ∧ eb ρ1 = some (.int j, p.2) ∧ (-(2 ^ 62) ≤ i ∧ i < 2 ^ 62 ∧ -(2 ^ 62) ≤ j ∧ j < 2 ^ 62) ∧ p.1 = rngL i (j - i).toNat := by
  obtain ⟨⟨d, ρ1⟩, e1, h⟩ := bnd h
  obtain ⟨⟨d', ρ2⟩, e2, h⟩ := bnd h
  cases d <;> simp only [reduceCtorEq] at h
  cases d' <;> simp only [reduceCtorEq] at h
  split at h
  · cases h
    exact ⟨_, _, ρ1, e1, e2, by assumption, rfl⟩
  · cases h
theorem pxi_rng2 (la : Ln ea) (lb : Ln eb) (h : PI X tg e (iRng2 (tCons (tI X.K ea) (tCons (tI X.K eb) tNil)))) : PXI X tg e (rng2E ea eb) := by
  refine ⟨pi_imp h fun σ H Q ⟨Gf, N, ts, ρ, hl, hs, ⟨ds, ρ'⟩, e, q⟩ => ?_, fun ρ p e => ?_⟩
  · obtain ⟨i, j, ρ1, e1, e2, hc, e3⟩ := rng2E_some e
    have e3 : ds = _ := e3
    subst e3
    exact ⟨Gf, N, ts, ρ, hl, hs, _, e1, fun x H1 h1 => ⟨Gf, N, tmp x (.int i) :: ts, ρ1, hl.trans (la _ _ e1).symm, h1, _, e2, fun y H2 h2 => ⟨i, j, by rw [SR.isInt (v := x) h2.swap2, h2.isInt], hc, q _ [] _ walks_rng (SR.drop (SR.drop h2))⟩⟩⟩
  · obtain ⟨i, j, ρ1, e1, e2, hc, e3⟩ := rng2E_some e
    rw [lb _ _ e2]; exact la _ _ e1
def zipE (ea eb : Env → Option (D × Env)) : Env → Option (List D × Env) := fun ρ => (ea ρ).bind fun p => (eb p.2).bind fun q => match p.1, q.1 with
    | .lst _ xs, .lst _ ys => some (zipL (shares xs) (shares ys), q.2)
    | _, _ => none
theorem zipE_some {ρ : Env} {p : List D × Env} (h : zipE ea eb ρ = some p) : ∃ f g xs ys ρ1, ea ρ = some (.lst f xs, ρ1) ∧ eb ρ1 = some (.lst g ys, p.2) ∧ p.1 = zipL (shares xs) (shares ys) := by
  obtain ⟨⟨d, ρ1⟩, e1, h⟩ := bnd h
  obtain ⟨⟨d', ρ2⟩, e2, h⟩ := bnd h
  cases d <;> simp only [reduceCtorEq] at h
  cases d' <;> simp only [reduceCtorEq] at h
  cases h
  exact ⟨_, _, _, _, ρ1, e1, e2, rfl⟩
theorem pxi_zip (la : Ln ea) (lb : Ln eb) (h : PI X tg e (iZip X.K (tCons (tI X.K ea) (tCons (tI X.K eb) tNil)))) : PXI X tg e (zipE ea eb) := by
  refine ⟨pi_imp h fun σ H Q ⟨Gf, N, ts, ρ, hl, hs, ⟨ds, ρ'⟩, e, q⟩ => ?_, fun ρ p e => ?_⟩
  · obtain ⟨f, g, xs, ys, ρ1, e1, e2, e3⟩ := zipE_some e
    have e3 : ds = _ := e3
    subst e3
    refine ⟨Gf, N, ts, ρ, hl, hs, _, e1, fun x H1 h1 => ⟨Gf, N, tmp x (.lst f xs) :: ts, ρ1, hl.trans (la _ _ e1).symm, h1, _, e2, fun y H2 h2 => ?_⟩⟩
    obtain ⟨b, ws, eb, cb, lb⟩ := h2.contV rfl
    obtain ⟨a, vs, ea, ca, la⟩ := SR.contV (v := x) h2.swap2 rfl
    have h3 := SR.share1 (v := x) h2.share1.swap2
    rw [share_lst, share_lst] at h3
    subst ea eb
    exact ⟨a, b, vs, ws, rfl, ca.1, cb.1, q _ _ _ (walks_zip (by simp [share, Fl.sh_sh, shares_shares]) (by simp [share, Fl.sh_sh, shares_shares])) h3⟩
  · obtain ⟨f, g, xs, ys, ρ1, e1, e2, e3⟩ := zipE_some e
    rw [lb _ _ e2]; exact la _ _ e1
def enumE (ea : Env → Option (D × Env)) : Env → Option (List D × Env) := fun ρ => (ea ρ).bind fun p => match p.1 with
    | .lst _ xs => some (enumL 0 (shares xs), p.2)
    | _ => none
theorem pxi_enum (la : Ln ea) (h : PI X tg e (iEnum X.K (tCons (tI X.K ea) tNil))) : PXI X tg e (enumE ea) := by
  refine ⟨pi_imp h fun σ H Q ⟨Gf, N, ts, ρ, hl, hs, p, e, q⟩ => ?_, fun ρ p e => ?_⟩
  · obtain ⟨⟨d, ρ'⟩, e1, e⟩ := bnd e
    cases d with
    | lst f xs =>
      cases e
      refine ⟨Gf, N, ts, ρ, hl, hs, _, e1, fun x H1 h => ?_⟩
      obtain ⟨a, vs, ev, cc, l⟩ := h.contV rfl
      have h' := h.share1
      rw [share_lst] at h'
      subst ev
      exact ⟨a, vs, rfl, cc.1, q _ _ _ (walks_enum (by simp [share, Fl.sh_sh, shares_shares])) h'⟩
    | _ => cases e
  · obtain ⟨⟨d, ρ'⟩, e1, e⟩ := bnd e
    cases d <;> simp only [reduceCtorEq] at e
    cases e; exact la _ _ e1
end
/-! ### targets -/
section
variable {K : PySem.W.Frag} {G H G' H' Gf : Hp} {N : List Addr} {rs ts : List Root} {v w : V} {d e : D}
theorem SR.untup {ds : List D} (h : SR K Gf N H (tmp v (.tup ds) :: rs)) : ∃ a vs, v = .ref a ∧ SqT K H a vs ∧ vs.length = ds.length ∧ SR K Gf N H (tmps vs ds ++ rs) := by
  obtain ⟨n, F, nd, r, g⟩ := h
  cases r with
  | cons y r =>
    cases y with
    | tup s q => exact ⟨_, _, rfl, SqT.le s hid_le, q.length, n, _, nd, (reps_tmps q).append r, g⟩
/-- what a target's store must give: the slots is change -/
def Same (is : List Nat) (σ σ' : L2.St) : Prop := σ'.length = σ.length ∧ ∀ i, i ∉ is → σ'[i]? = σ[i]?
theorem Same.refl (is : List Nat) (σ : L2.St) : Same is σ σ := ⟨rfl, fun _ _ => rfl⟩
theorem Same.trans {is : List Nat} {a b c : L2.St} (h : Same is a b) (g : Same is b c) : Same is a c := ⟨g.1.trans h.1, fun i hi => (g.2 i hi).trans (h.2 i hi)⟩
theorem Same.mono {is js : List Nat} {a b : L2.St} (h : Same is a b) (s : ∀ i ∈ is, i ∈ js) : Same js a b := ⟨h.1, fun i hi => h.2 i fun z => hi (s i z)⟩
theorem Same.set {is : List Nat} {σ : L2.St} {i : Nat} {o : Option V} (h : i ∈ is) : Same is σ (σ.set i o) := ⟨List.length_set, fun j hj => List.getElem?_set_ne fun (z : i = j) => hj (z ▸ h)⟩
def TgOk (K : PySem.W.Frag) (t : Tg) (g : TG) : Prop := ∀ {Gf : Hp} {N : List Addr} {H : Hp} {rs : List Root} {σ : L2.St} {ρ ρ' : Env} {v : V} {d : D} {Q : L2.St → Hp → Prop}, σ.length = ρ.length → SR K Gf N H (tmp v d :: (rs ++ σ.zip ρ)) → bindT t d ρ = some ρ' →
  (∀ σ' H', Same t.slots σ σ' → ρ'.length = ρ.length → SR K Gf N H' (rs ++ σ'.zip ρ') → Q σ' H') → g v σ H Q
theorem putS_some {ρ ρ' : Env} {i : Nat} (h : putS ρ i d = some ρ') : i < ρ.length ∧ ρ' = ρ.set i (some d) := by
  unfold putS at h
  split at h
  · cases h; exact ⟨by assumption, rfl⟩
  · cases h
theorem tg_name (i : Nat) : TgOk K (.name i) (gName i) := by
  intro Gf N H rs σ ρ ρ' v d Q hl h e q
  obtain ⟨hi, rfl⟩ := putS_some e
  exact q _ _ (.set (by simp [Tg.slots])) len_set (h.store hl hi)
def gNames : List Nat → TGs
  | [] => gNil
  | i :: is => gCons (gName i) (gNames is)
theorem tgs_ok : ∀ (is : List Nat) {Gf : Hp} {N : List Addr} {H : Hp} {rs : List Root} {σ : L2.St} {ρ ρ' : Env} {vs : List V} {ds : List D} {Q : L2.St → Hp → Prop}, σ.length = ρ.length → vs.length = ds.length → SR K Gf N H (tmps vs ds ++ (rs ++ σ.zip ρ)) → putAll ρ is ds = some ρ' →
    (∀ σ' H', Same is σ σ' → ρ'.length = ρ.length → SR K Gf N H' (rs ++ σ'.zip ρ') → Q σ' H') → gNames is vs σ H Q
  | [], _, _, _, _, _, _, _, [], [], _, hl, _, h, e, q => by
    simp only [putAll] at e
    cases e
    exact ⟨rfl, q _ _ (.refl _ _) rfl h⟩
  | [], _, _, _, _, _, _, _, _, _ :: _, _, _, _, _, e, _ => by simp [putAll] at e
  | _ :: _, _, _, _, _, _, _, _, _, [], _, _, _, _, e, _ => by simp [putAll] at e
  | [], _, _, _, _, _, _, _, _ :: _, [], _, _, l, _, _, _ => by simp at l
  | _ :: _, _, _, _, _, _, _, _, [], _ :: _, _, _, l, _, _, _ => by simp at l
  | i :: is, Gf, N, H, rs, σ, ρ, ρ', v :: vs, d :: ds, Q, hl, l, h, e, q => by
    simp only [putAll] at e
    obtain ⟨ρ1, e1, e2⟩ := bnd e
    obtain ⟨hi, rfl⟩ := putS_some e1
    refine ⟨v, vs, rfl, ?_⟩
    show gNames is vs (σ.set i (some v)) H Q
    have h1 : SR K Gf N H (tmp v d :: ((tmps vs ds ++ rs) ++ σ.zip ρ)) := by rw [List.append_assoc]; exact h
    have h2 := h1.store hl hi
    rw [List.append_assoc] at h2
    refine tgs_ok is (by rw [List.length_set, len_set]; exact hl) (by simpa using l) h2 e2 fun σ' H' s l' h3 => q σ' H' ?_ (by rw [l', len_set]) h3
    exact (Same.set (by simp)).trans (s.mono fun j hj => List.mem_cons_of_mem _ hj)
def gTL (K : PySem.W.Frag) (n : Nat) (t : TGs) : TG := fun v σ H Q => gTup K n t v σ H Q ∨ gUnl K n t v σ H Q
theorem tg_names (is : List Nat) : TgOk K (.names is) (gTL K is.length (gNames is)) := by
  intro Gf N H rs σ ρ ρ' v d Q hl h e q
  cases d with
  | tup ds =>
    simp only [bindT] at e
    split at e
    · rename_i hlen
      obtain ⟨a, vs, ev, sq, lv, h2⟩ := h.untup
      exact .inl ⟨a, vs, ev, sq, by rw [lv, hlen], tgs_ok is hl lv h2 e q⟩
    · cases e
  | lst f ds =>
    simp only [bindT] at e
    split at e
    · rename_i hlen
      obtain ⟨a, vs, ev, cc, lv, h2⟩ := h.items1 rfl
      have lv : vs.length = ds.length := lv
      exact .inr ⟨a, vs, ev, cc.1, by rw [lv, hlen], tgs_ok is hl (by rw [lv]; exact (shares_len ds).symm) h2 e q⟩
    · cases e
  | _ => simp only [bindT, reduceCtorEq] at e
def gT (K : PySem.W.Frag) : Tg → TG
  | .name i => gName i
  | .names is => gTL K is.length (gNames is)
theorem tg_ok (t : Tg) : TgOk K t (gT K t) := by
  cases t with
  | name i => exact tg_name i
  | names is => exact tg_names is
theorem bindT_len {t : Tg} {ρ ρ' : Env} (h : bindT t d ρ = some ρ') : ρ'.length = ρ.length := by
  have all : ∀ (is : List Nat) (ds : List D) (ρ ρ' : Env), putAll ρ is ds = some ρ' → ρ'.length = ρ.length := by
    intro is
    induction is with
    | nil => intro ds ρ ρ' h; cases ds <;> simp [putAll] at h; rw [h]
    | cons i is ih =>
      intro ds ρ ρ' h
      cases ds with
      | nil => simp [putAll] at h
      | cons d ds =>
        simp only [putAll] at h
        obtain ⟨ρ1, e1, e2⟩ := bnd h
        obtain ⟨_, rfl⟩ := putS_some e1
        rw [ih _ _ _ e2, len_set]
  cases t with
  | name i => obtain ⟨_, rfl⟩ := putS_some h; exact len_set
  | names is =>
    cases d <;> simp only [bindT, reduceCtorEq] at h
    · split at h
      · exact all _ _ _ _ h
      · cases h
    · split at h
      · exact all _ _ _ _ h
      · cases h
/-! ### wiping -/
theorem wipeD_len (ρ : Env) : ∀ vs : List Nat, (wipeD ρ vs).length = ρ.length
  | [] => rfl
  | v :: vs => by unfold wipeD; rw [List.length_set, wipeD_len ρ vs]
theorem wipeD_none {ρ : Env} : ∀ {vs : List Nat} {i : Nat}, i ∈ vs → i < ρ.length → (wipeD ρ vs)[i]? = some none
  | [], _, h, _ => by simp at h
  | v :: vs, i, h, hl => by
    unfold wipeD
    by_cases e : v = i
    · subst e
      rw [List.getElem?_set_self (by rw [wipeD_len]; exact hl)]
    · rw [List.getElem?_set_ne e]
      exact wipeD_none (by rcases List.mem_cons.mp h with z | z; exact absurd z.symm e; exact z) hl
theorem wipe_out {σ : L2.St} : ∀ {vs : List Nat} {i : Nat}, i ∉ vs → (wipe σ vs)[i]? = σ[i]?
  | [], _, _ => rfl
  | v :: vs, i, h => by
    simp only [List.mem_cons, not_or] at h
    unfold wipe
    rw [List.getElem?_set_ne fun z => h.1 z.symm]
    exact wipe_out h.2
theorem wipe_in {σ : L2.St} : ∀ {vs : List Nat} {i : Nat}, i ∈ vs → i < σ.length → (wipe σ vs)[i]? = some none
  | [], _, h, _ => by simp at h
  | v :: vs, i, h, hl => by
    unfold wipe
    by_cases e : v = i
    · subst e
      rw [List.getElem?_set_self (by rw [wipe_length]; exact hl)]
    · rw [List.getElem?_set_ne e]
      exact wipe_in (by rcases List.mem_cons.mp h with z | z; exact absurd z.symm e; exact z) hl
theorem wipe_eq {σ σ' : L2.St} {vs : List Nat} (h : Same vs σ σ') : wipe σ' vs = wipe σ vs := by
  apply List.ext_getElem?
  intro i
  by_cases hi : i ∈ vs
  · by_cases hl : i < σ.length
    · rw [wipe_in hi hl, wipe_in hi (by rw [h.1]; exact hl)]
    · rw [List.getElem?_eq_none (by rw [wipe_length, h.1]; omega), List.getElem?_eq_none (by rw [wipe_length]; omega)]
  · rw [wipe_out hi, wipe_out hi, h.2 i hi]
theorem Same.wipe {σ : L2.St} {vs : List Nat} : Same vs σ (wipe σ vs) := ⟨wipe_length _ _, fun i hi => wipe_out hi⟩
theorem Same.symm {σ σ' : L2.St} {vs : List Nat} (h : Same vs σ σ') : Same vs σ' σ := ⟨h.1.symm, fun i hi => (h.2 i hi).symm⟩
/-- the slots without a datum may hold anything -/
theorem RepO.slots : ∀ {σ σ' : L2.St} {ρ : Env} {F : List Addr}, RepO K G H (σ.zip ρ) F → σ'.length = σ.length → (∀ i : Nat, ρ[i]? = some none ∨ σ'[i]? = σ[i]?) → RepO K G H (σ'.zip ρ) F
  | [], [], _, _, r, _, _ => r
  | [], _ :: _, _, _, _, l, _ => by simp at l
  | _ :: _, [], _, _, _, l, _ => by simp at l
  | _ :: _, _ :: _, [], _, r, _, _ => by simpa using r
  | a :: σ, b :: σ', none :: ρ, F, r, l, h => by
    simp only [List.zip_cons_cons] at r ⊢
    cases r with
    | skip r => exact .skip (RepO.slots r (by simpa using l) fun i => by simpa using h (i + 1))
  | a :: σ, b :: σ', some d :: ρ, F, r, l, h => by
    simp only [List.zip_cons_cons] at r ⊢
    have h0 := h 0
    simp at h0
    subst h0
    cases r with
    | cons x r => exact .cons x (RepO.slots r (by simpa using l) fun i => by simpa using h (i + 1))
theorem SR.slots {σ σ' : L2.St} {ρ : Env} (h : SR K Gf N H (ts ++ σ.zip ρ)) (hl : σ'.length = σ.length) (hs : ∀ i : Nat, ρ[i]? = some none ∨ σ'[i]? = σ[i]?) : SR K Gf N H (ts ++ σ'.zip ρ) := by
  obtain ⟨n, F, nd, r, g⟩ := h
  obtain ⟨F1, F2, rfl, r1, r2⟩ := r.split
  exact ⟨n, F1 ++ F2, nd, r1.append (r2.slots hl hs), g⟩
theorem SR.wipes {σ : L2.St} {ρ : Env} (hl : σ.length = ρ.length) (h : SR K Gf N H (ts ++ σ.zip ρ)) : ∀ vs : List Nat, SR K Gf N H (ts ++ σ.zip (wipeD ρ vs))
  | [] => h
  | v :: vs => by
    unfold wipeD
    by_cases hv : v < σ.length
    · exact (SR.wipes hl h vs).forget hv
    · rw [List.set_eq_of_length_le (by rw [wipeD_len]; omega)]; exact SR.wipes hl h vs
end
end FL

/-! F11: comprehensions. -/
namespace FL
open PySem PySem.Spec PyProof.Rows L2 StX
def compE (t : Tg) (ei : Env → Option (List D × Env)) (ct : Env → Option (Bool × Env)) (ee : Env → Option (D × Env)) : Env → Option (D × Env) := fun ρ => (ei ρ).bind fun p => (compL (bindT t) ct ee t.slots p.1 (wipeD p.2 t.slots) []).map fun q => (.lst .own q.1, q.2)
theorem compL_len {t : Tg} {ct : Env → Option (Bool × Env)} {ee : Env → Option (D × Env)} (lc : Ln ct) (le : Ln ee) : ∀ {ds : List D} {ρ : Env} {acc : List D} {p : List D × Env}, compL (bindT t) ct ee t.slots ds ρ acc = some p → p.2.length = ρ.length
  | [], ρ, acc, p, h => by simp only [compL] at h; cases h; rfl
  | d :: ds, ρ, acc, p, h => by
    simp only [compL] at h
    obtain ⟨ρ1, e1, h⟩ := bnd h
    obtain ⟨⟨b, ρ2⟩, e2, h⟩ := bnd h
    cases b with
    | true =>
      obtain ⟨q, e3, h⟩ := bnd h
      split at h
      · rw [compL_len lc le h, wipeD_len, le _ _ e3]
        have := lc _ _ e2
        simp only at this
        rw [this, bindT_len e1]
      · cases h
    | false =>
      simp only at h
      rw [compL_len lc le h, wipeD_len]
      have := lc _ _ e2
      simp only at this
      rw [this, bindT_len e1]
section
variable {K : PySem.W.Frag}
theorem wiped_slots {σ σ2 : L2.St} {ρ : Env} {vs : List Nat} (s : Same vs (wipe σ vs) σ2) (hl : σ2.length = ρ.length) : ∀ i : Nat, (wipeD ρ vs)[i]? = some none ∨ (wipe σ vs)[i]? = σ2[i]? := fun i => by
  by_cases hi : i ∈ vs
  · by_cases hj : i < ρ.length
    · exact .inl (wipeD_none hi hj)
    · refine .inr ?_
      rw [List.getElem?_eq_none (by rw [← s.1]; omega), List.getElem?_eq_none (by omega)]
  · exact .inr (s.2 i hi).symm
theorem tI_comp {t : Tg} {ei : Env → Option (List D × Env)} {ct : Env → Option (Bool × Env)} {ee : Env → Option (D × Env)} (li : Ln ei) (lc : Ln ct) (le : Ln ee) {σ : L2.St} {H : Hp} {Q : VK} (h : tI K (compE t ei ct ee) σ H Q) :
    tLc (tIt K ei) (gT K t) (tIT K ct) (tI K ee) t.slots σ H Q := by
  obtain ⟨Gf, N, ts, ρ, hl, hs, p, e, q⟩ := h
  obtain ⟨⟨items, ρ0⟩, e1, e⟩ := bnd e
  obtain ⟨fin, e2, rfl⟩ := mpd e
  refine ⟨Gf, N, ts, ρ, hl, hs, _, e1, fun J cs H1 wk h1 Dl hD => ?_⟩
  have l0 : ρ0.length = σ.length := (li _ _ e1).trans hl.symm
  have hcs : SR K Gf N H1 ((cs ++ ts) ++ σ.zip ρ0) := by rw [List.append_assoc]; exact h1
  have hw : SR K Gf N H1 ((cs ++ ts) ++ (wipe σ t.slots).zip (wipeD ρ0 t.slots)) :=
    (hcs.wipes l0.symm t.slots).slots (wipe_length _ _) fun i => by
      rcases wiped_slots (σ := σ) (σ2 := σ) (ρ := ρ0) (vs := t.slots) Same.wipe.symm l0.symm i with z | z
      · exact .inl z
      · exact .inr z
  have hn := SR.newL (vs := []) (ds := []) (p := Dl) hw rfl hD
  refine ⟨fun i m H' => m = items.length - i ∧ i ≤ items.length ∧ ∃ acc ρi, ρi.length = σ.length ∧ (∀ j ∈ t.slots, j < ρi.length → ρi[j]? = some none) ∧ SR K Gf N H' (tmp (.ref Dl) (.lst .own acc) :: ((cs ++ ts) ++ (wipe σ t.slots).zip ρi)) ∧ compL (bindT t) ct ee t.slots (items.drop i) ρi acc = some fin,
    ⟨items.length, by simp, Nat.zero_le _, [], _, by rw [wipeD_len]; exact l0, fun j hj hlt => wipeD_none hj (by rw [wipeD_len] at hlt; exact hlt), hn, by simpa using e2⟩, ?_⟩
  rintro i m H' ⟨rfl, hi, acc, ρi, lr, nn, hS, hC⟩
  have hS' : SR K Gf N H' (cs ++ ((tmp (.ref Dl) (.lst .own acc) :: ts) ++ (wipe σ t.slots).zip ρi)) := by
    rw [List.append_assoc] at hS
    exact SR.fromFront (r := tmp (.ref Dl) (.lst .own acc)) hS
  obtain ⟨wg, ws⟩ := wk i hS'
  by_cases hlt : i < items.length
  · refine .inr ?_
    have ed : items[i]? = some items[i] := List.getElem?_eq_getElem hlt
    rw [List.drop_eq_getElem_cons hlt] at hC
    simp only [compL] at hC
    obtain ⟨ρ1, e3, hC⟩ := bnd hC
    obtain ⟨⟨b, ρ2⟩, e4, hC⟩ := bnd hC
    obtain ⟨go, yl⟩ := wg _ ed
    refine ⟨go, fun H2 => ∃ acc ρi, ρi.length = σ.length ∧ (∀ j ∈ t.slots, j < ρi.length → ρi[j]? = some none) ∧ SR K Gf N H2 (tmp (.ref Dl) (.lst .own acc) :: ((cs ++ ts) ++ (wipe σ t.slots).zip ρi)) ∧ compL (bindT t) ct ee t.slots (items.drop (i + 1)) ρi acc = some fin,
      fun H2 h2 => ⟨items.length - (i + 1), by omega, rfl, by omega, h2⟩, fun x H2 y => ?_⟩
    have h3 := yl x H2 y
    have h3' : SR K Gf N H2 (tmp x items[i] :: ((cs ++ (tmp (.ref Dl) (.lst .own acc) :: ts)) ++ (wipe σ t.slots).zip ρi)) := by rw [List.append_assoc]; exact h3
    refine tg_ok t (by rw [wipe_length]; exact lr.symm) h3' e3 fun σ2 H3 sm l1 h4 => ⟨?_, ?_⟩
    · rw [wipe_eq sm, wipe_eq Same.wipe]
    · have ls2 : σ2.length = ρ1.length := by rw [sm.1, wipe_length, l1, lr]
      refine ⟨Gf, N, _, ρ1, ls2, h4, (b, ρ2), e4, fun H4 h5 => ?_⟩
      have l2 : ρ2.length = ρ1.length := lc _ _ e4
      cases b with
      | true =>
        refine iteT ?_
        obtain ⟨⟨yd, ρ3⟩, e5, hC⟩ := bnd hC
        split at hC
        · rename_i hsz
          refine ⟨Gf, N, _, ρ2, ls2.trans l2.symm, h5, _, e5, fun u H5 h6 => ?_⟩
          have l3 : ρ3.length = ρ2.length := le _ _ e5
          have h7 : SR K Gf N H5 ((tmp u yd :: (cs ++ (tmp (.ref Dl) (.lst .own acc) :: ts))) ++ σ2.zip (wipeD ρ3 t.slots)) := SR.wipes (by rw [ls2, l3, l2]) h6 t.slots
          have h8 : SR K Gf N H5 ((tmp u yd :: (cs ++ (tmp (.ref Dl) (.lst .own acc) :: ts))) ++ (wipe σ t.slots).zip (wipeD ρ3 t.slots)) :=
            h7.slots sm.1.symm fun j => wiped_slots sm (by rw [ls2, l3, l2]) j
          have h9 : SR K Gf N H5 (tmp (.ref Dl) (.lst .own acc) :: tmp u yd :: ((cs ++ ts) ++ (wipe σ t.slots).zip (wipeD ρ3 t.slots))) := by
            refine h8.perm ?_
            show (tmp u yd :: ((cs ++ (tmp (.ref Dl) (.lst .own acc) :: ts)) ++ _)).Perm _
            refine (List.Perm.cons _ ?_).trans (.swap _ _ _)
            rw [List.append_assoc, List.append_assoc]
            exact List.perm_middle
          obtain ⟨vs, ev, lv, h10⟩ := h9.push
          refine ⟨vs, ev, by rw [lv, sizeLine_eq]; exact hsz, acc ++ [yd], _, by rw [wipeD_len, l3, l2, l1, lr], fun j hj hlt => wipeD_none hj (by rw [wipeD_len] at hlt; exact hlt), h10, hC⟩
        · cases hC
      | false =>
        refine iteF ?_
        have h7 := SR.wipes (by rw [ls2, l2]) h5 t.slots
        have h8 := h7.slots sm.1.symm fun j => wiped_slots sm (by rw [ls2, l2]) j
        refine ⟨acc, _, by rw [wipeD_len, l2, l1, lr], fun j hj hlt => wipeD_none hj (by rw [wipeD_len] at hlt; exact hlt), ?_, hC⟩
        rw [List.append_assoc] at h8
        rw [List.append_assoc]
        exact SR.toFront (r := tmp (.ref Dl) (.lst .own acc)) h8
  · have ei : i = items.length := by omega
    refine .inl ⟨ws (show items.length ≤ i by omega), ?_⟩
    rw [List.drop_of_length_le (by omega)] at hC
    simp only [compL] at hC
    cases hC
    refine q _ _ ?_
    have h3 : SR K Gf N H' ((tmp (.ref Dl) (.lst .own acc) :: (cs ++ ts)) ++ σ.zip ρi) := SR.slots (σ := wipe σ t.slots) hS (wipe_length _ _).symm fun j => by
      by_cases hj : j ∈ t.slots
      · by_cases hjl : j < ρi.length
        · exact .inl (nn j hj hjl)
        · refine .inr ?_
          rw [List.getElem?_eq_none (by omega), List.getElem?_eq_none (by rw [wipe_length]; omega)]
      · exact .inr (wipe_out hj).symm
    have h4 : SR K Gf N H' (cs ++ (tmp (.ref Dl) (.lst .own acc) :: (ts ++ σ.zip ρi))) := by
      refine h3.perm ?_
      show (tmp (.ref Dl) (.lst .own acc) :: ((cs ++ ts) ++ σ.zip ρi)).Perm _
      rw [List.append_assoc]
      exact List.perm_middle.symm
    exact h4.dropL
theorem compE_ln {t : Tg} {ei : Env → Option (List D × Env)} {ct : Env → Option (Bool × Env)} {ee : Env → Option (D × Env)} (li : Ln ei) (lc : Ln ct) (le : Ln ee) : Ln (compE t ei ct ee) := fun ρ p e => by
  obtain ⟨pi, e1, e⟩ := bnd e
  obtain ⟨fin, e2, rfl⟩ := mpd e
  show fin.2.length = _
  rw [compL_len lc le e2, wipeD_len, li _ _ e1]
end
end FL

/-! X1: rules about exceptions: clauses with and without a name, mixed; fields and classes of a caught one; making one; calls that raise, at known slots. -/
namespace FX
open PySem PySem.Spec PyProof.Rows L2
abbrev St := L2.St
/-- one clause -/
structure Clause where
  cv : Value
  sl : Option Nat
  rd : Addr → Value → Option Addr → TS
def endsOf : Option Nat → Ends → Ends
  | none, D => D
  | some i, D => ⟨fun σ H => D.nx (σ.set i none) H, D.rt, fun σ H => D.bk (σ.set i none) H, fun σ H => D.ct (σ.set i none) H⟩
def inSlot : Option Nat → Addr → St → St
  | none, _, σ => σ
  | some i, a, σ => σ.set i (some (.ref a))
def wCl (K : PySem.W.Frag) (Wo : WX) (D : Ends) : List Clause → WX
  | [] => Wo
  | q :: r => fun cls d σ H => ∃ b, PySem.W.exmOne K cls q.cv = some b ∧ (b = true → ∀ a, H a = none → q.rd a cls d (endsOf q.sl D) (inSlot q.sl a σ) H) ∧ (b = false → wCl K Wo D r cls d σ H)
def SlOk (X : Cx) : Option Str → Option Nat → Prop
  | none, none => True
  | some n, some i => X.N[i]? = some n ∧ X.env.kindOf n = some .local
  | _, _ => False
inductive ClOk (X : Cx) : List ExceptHandler → List Clause → Prop
  | nil : ClOk X [] []
  | cons {x : Str} {cv : Value} {sl : Option Nat} {rd : Addr → Value → Option Addr → TS} {nm : Option Str} {s0 : Stmt} {su : List Stmt} {np hp : Pos} {hds : List ExceptHandler} {l : List Clause} (hc : Names X x cv) (hn : SlOk X nm sl)
      (hsu : ∀ (a : Addr) (oe : Obj) (cls : Value) (d : Option Addr) (pn : List (Addr × Obj)), L2N.Zn cls d oe → (∃ fv, oe.data = .fields fv) → PSs (X.suite a ((a, oe) :: pn)) (s0 :: su) (rd a cls d))
      (r : ClOk X hds l) : ClOk X (.ExceptHandler (some (.Name x np)) nm (s0 :: su) hp :: hds) (⟨cv, sl, rd⟩ :: l)
section
variable {X : Cx} {body : List Stmt} {h0 : ExceptHandler} {hds : List ExceptHandler} {l : List Clause} {pos : Pos} {tb : WX → TS} {Wo : WX}
theorem ps_try_mix (hst : X.stack = X.env :: X.outer) (hfm : X.env.frame = some X.env.locals) (hN : X.N.Nodup) (tk : L2N.Takes X Wo)
    (hb : ∀ (W : WX) (pn : List (Addr × Obj)) (xe : Value → Shared → Prop), L2N.Takes (X.tr pn xe) W → PassesOwn (model X.prog X.w) X.A X.env xe → PSs (X.tr pn xe) body (tb W))
    (hh : ClOk X (h0 :: hds) l) : PS X (.Try body (h0 :: hds) [] [] pos) (fun D σ H => tb (wCl X.K Wo D l) D σ H) := by
  refine ⟨fun pins s σ H D I q0 => ?_⟩
  have ok := I.ok
  have fr : X.A.frames = some (X.env :: X.outer) := ok.frames.trans (congrArg some hst)
  refine wpAny_Try_except ?_
  let after : Value → Shared → Prop := fun e t1 => wpAny (model X.prog X.w) X.A (noteFrame e X.env) (fun _ t2 => wpAny (model X.prog X.w) X.A (setFlight e none) (fun _ t3 => wpAny (model X.prog X.w) X.A (handleBy e X.env (h0 :: hds)) (SP X pins D) X.xe t3) X.xe t2) X.xe t1
  have caught : L2N.Takes (X.tr (X.pn ++ pins) after) (wCl X.K Wo D l) := fun u t xx => by
    obtain ⟨a, B, sI, pins1, σ1, H1, cls, d, rfl, J0, nb, up, sky, na, os, ag, w⟩ := xx
    have J : Inv X pins σ1 H1 sI := J0.ofTry ok
    rw [show (X.tr (X.pn ++ pins) after).stack = X.env :: X.outer from hst] at sky
    show wpAny (model X.prog X.w) X.A (noteFrame (.ref a) X.env) _ _ _
    refine L2N.Sky.land L2N.Zn.steady fr hfm sky fun hA flA upA => ?_
    have JA : Inv X pins σ1 H1 { t with heap := hA } := J.landed nb flA.1 (up.trans upA) os ag
    obtain ⟨oA, fA, gA, zA, dA⟩ := flA.there
    have out : a ∉ frs (X.env :: X.outer) := fun hm => by
      obtain ⟨_, o2, g2, hnf⟩ := flA.2.2.1.mem hm
      rw [gA] at g2; cases g2
      exact hnf _ dA
    have nLoc : a ≠ X.env.locals := fun z => out (List.mem_filterMap.mpr ⟨X.env, List.mem_cons_self, by rw [hfm, z]⟩)
    have nFs : a ∉ X.fs := fun hm => by
      obtain ⟨e, he, q⟩ := List.mem_filterMap.mp hm
      exact out (List.mem_filterMap.mpr ⟨e, List.mem_cons_of_mem _ he, q⟩)
    have SA := JA.suite gA dA na nLoc nFs
    have LT : PySem.W.Looks (model X.prog X.w) hA (typeOf (.ref a)) cls := fun A Q E s k q => wpAny_typeOf_ref (k _ _ gA) (by rw [zA.1]; exact q)
    have walk : ∀ {hs1 : List ExceptHandler} {l1 : List Clause}, ClOk X hs1 l1 → wCl X.K Wo D l1 cls d σ1 H1 → wpAny (model X.prog X.w) X.A (handleBy (.ref a) X.env hs1) (SP X pins D) X.xe { t with heap := hA } := by
      intro hs1 l1 hk
      induction hk with
      | nil =>
        intro w
        refine wpAny_handleBy_nil ?_
        obtain ⟨_, _, _, o3, f3, T3, _, _, g3, _, d3, e3, _⟩ := id flA
        unfold PySem.passOn
        refine wpAny_bind (wpAny_field g3 d3 e3 ?_)
        rw [if_neg (show ¬ ((Value.ref T3 == Value.none) = true) from by simp)]
        have go : wpAny (model X.prog X.w) X.A (setFlight (.ref a) X.env.frame) (fun _ t4 => wpAny (model X.prog X.w) X.A (throw (.ref a) : Sem PySem.Flow) (SP X pins D) X.xe t4) X.xe { t with heap := hA } := by
          rw [hfm]
          refine HandSPX.setFlight_upZ flA fun hB hhB upB => wpAny_throw (tk _ _ ?_)
          refine ⟨a, B, sI, pins, σ1, H1, cls, d, rfl, J, nb, (up.trans upA).trans upB, .inr (.inr ?_), na, os, ag, w⟩
          rw [hst]; exact hhB
        first
          | exact wpAny_bind (wpAny_pure (wpAny_bind go))
          | exact wpAny_bind go
      | @cons x cv sl rd nm s0 su np hp hds2 l2 hc hn hsu r ih =>
        intro w
        obtain ⟨b, hb1, yes, no⟩ := w
        refine wpAny_handleBy_cons (codeAny_handlers_test ?_) (by intro q; cases q)
        have LM := PySem.W.exm_one (M := model X.prog X.w) JA.kIn LT hb1
        have test : ∀ {Q : Value → Shared → Prop} {E : Value → Shared → Prop}, Q cv { t with heap := hA } → wpAny (model X.prog X.w) (X.A.mark (some (.ref a))) (eval (.Name x np) X.env) Q E { t with heap := hA } := fun {Q E} q => by
          rcases hc with ⟨hg, hd, hm | ⟨hm, hv, hx⟩⟩
          · exact ld_glob (X := X.suite a ((a, oA) :: (X.pn ++ pins))) SA hg hm q hd
          · exact ld_blt (X := X.suite a ((a, oA) :: (X.pn ++ pins))) SA hg hm hv q hx hd
        refine test (LM.here ?_)
        cases b with
        | false =>
          show wpAny _ X.A (handleBy (.ref a) X.env hds2) _ _ _
          exact ih (no rfl)
        | true =>
          have w1 := yes rfl a na
          cases sl with
          | none =>
            cases nm with
            | some n => exact hn.elim
            | none =>
              refine codeAny_handlers_suite (HandSPX.lands_againZ flA fun hC flC upC => ?_)
              have JC : Inv X pins σ1 H1 { t with heap := hC } := J.landed nb flC.1 ((up.trans upA).trans upC) os ag
              obtain ⟨oC, fC, gC, zC, dC⟩ := flC.there
              have SC := JC.suite gC dC na nLoc nFs
              refine wpAny_mono ((hsu a oC cls d (X.pn ++ pins) zC ⟨_, dC⟩).run [] _ _ H1 _ SC w1) (fun f t6 sp => ?_) (fun _ _ z => False.elim z)
              cases f with
              | ret u =>
                obtain ⟨v6, σ6, H6, S6, r6, q6⟩ := sp
                exact ⟨_, _, _, S6.unsuite ok, r6, q6⟩
              | _ =>
                obtain ⟨σ6, H6, S6, q6⟩ := sp
                exact ⟨_, _, S6.unsuite ok, q6⟩
          | some i =>
            cases nm with
            | none => exact hn.elim
            | some n =>
              obtain ⟨hi, hl⟩ := hn
              refine codeAny_handlers_suite_as (HandSPX.lands_againZ flA fun hC flC upC => ?_)
              have JC : Inv X pins σ1 H1 { t with heap := hC } := J.landed nb flC.1 ((up.trans upA).trans upC) os ag
              obtain ⟨oC, fC, gC, zC, dC⟩ := flC.there
              have SC := JC.suite gC dC na nLoc nFs
              refine store_ok (X := X.suite a ((a, oC) :: (X.pn ++ pins))) (v := .ref a) SC hN hi (.inl hl) rfl (fun t5 S5 => ?_) (.inr hl)
              refine wpAny_mono ((hsu a oC cls d (X.pn ++ pins) zC ⟨_, dC⟩).run [] t5 _ H1 _ S5 w1) (fun f t6 sp => ?_) (fun _ _ z => False.elim z)
              have bye : ∀ {σ6 : St} {H6 : Hp} {Q : Shared → Prop}, Inv (X.suite a ((a, oC) :: (X.pn ++ pins))) [] σ6 H6 t6 → (∀ t7, Inv X pins (σ6.set i none) H6 t7 → Q t7) → wpAny (model X.prog X.w) X.A (do bindName X.env n .none; unbindBehindTheSuite X.env n hp) (fun _ t7 => Q t7) X.xe t6 :=
                fun {σ6 H6 Q} S6 hq => gone_ok (S6.unsuite ok) hN hi hl hq
              cases f with
              | ret u =>
                obtain ⟨v6, σ6, H6, S6, r6, q6⟩ := sp
                exact bye S6 fun t7 J7 => ⟨_, _, _, J7, r6, q6⟩
              | _ =>
                obtain ⟨σ6, H6, S6, q6⟩ := sp
                exact bye S6 fun t7 J7 => ⟨_, _, J7, q6⟩
    exact walk hh w
  refine wpAny_mono ((hb (wCl X.K Wo D l) (X.pn ++ pins) after caught PassesOwn.looking).run [] s σ H D (I.toTry _) q0) (fun f t1 sp => ?_) (fun e t1 z => z)
  cases f with
  | next =>
    obtain ⟨σ1, H1, J1, q⟩ := sp
    exact wpAny_execs_nil ⟨σ1, H1, J1.ofTry ok, q⟩
  | ret u =>
    obtain ⟨v, σ1, H1, J1, r, q⟩ := sp
    exact ⟨v, σ1, H1, J1.ofTry ok, r, q⟩
  | _ =>
    obtain ⟨σ1, H1, J1, q⟩ := sp
    exact ⟨σ1, H1, J1.ofTry ok, q⟩
end
/-! ### what a caught one tells -/
/-- the class facts that reading a field and isinstance want -/
structure XFacts (K : PySem.W.Frag) (C : Addr) : Prop where
  cl : (PySem.W.clsIn K C).isSome = true
  ga : PySem.W.findIn K (.ref C) "__getattribute__" = some (some (.builtin "BaseException.__getattribute__"))
  gg : PySem.W.findIn K (.ref C) "__getattr__" = some none
  sb : PySem.W.subIn K (.ref C) (.type "BaseException") = some true
  hd : PySem.W.hasDictIn K C = true
  kl : PySem.W.findIn K (.ref C) "__class__" = some (some (.builtin "object.__class__"))
  gt : PySem.W.specialIn K (.builtin "object.__class__") "__get__" = some (some (.builtin "getset_descriptor.__get__"))
  tk : PySem.W.takesIn K (.builtin "object.__class__") = some true
  mr : PySem.W.mroIn K C (.type "object") = some true
section
variable {X : Cx} {a C : Addr} {oe : Obj} {cls : Value} {d : Option Addr}
/-- e.f -/
def tXfl (a dd : Addr) (f : Str) (te : TE) : TE := fun σ H Q => te σ H fun x H1 => x = .ref a ∧ ∃ (fs : List (Str × V)) (v : V), H1 dd = some (.xd fs) ∧ fs.lookup f = some v ∧ Q v H1
theorem pe_xfl {dd : Addr} {e : Expr} {te : TE} {pos : Pos} {f : Str} (T : XFacts X.K C) (hno : PySem.W.findIn X.K (.ref C) f = some none) (hp : (a, oe) ∈ X.pn) (hz : Zc (.ref C) (some dd) oe) (hf : ∃ fv, oe.data = .fields fv) (he : PE X e te)
    (hb : attributeBase e f X.env (eval e X.env) = eval e X.env := by rfl) : PE X (.Attribute e f pos) (tXfl a dd f te) := by
  refine ⟨fun pins s σ H Q I h => attr_of hb (thn (he.run pins s σ H _ I h) fun u s1 hh => ?_)⟩
  obtain ⟨x, H1, I1, rx, rfl, fs, v, ea, l, q⟩ := hh
  obtain rfl : u = Value.ref a := rx
  obtain ⟨mA, hns, hr⟩ := (I1.hok dd _ ea : ObjOk X.prog X.w H1 s1.heap dd (.xd fs))
  obtain ⟨od, ho, hl⟩ := lookIn_ns hns
  obtain ⟨u, hu, ru⟩ := RelO.some_of (v := v) (o := mA f) (by rw [← l]; exact hr f)
  obtain ⟨fv, hd⟩ := hf
  have J : PySem.W.InstAt s1.heap a oe C (some od) := ⟨(I1.pin (a, oe) (List.mem_append_left _ hp)).1, hz.1, by unfold PySem.W.notCls; rw [hd] <;> rfl, by rw [hz.2]; exact ho⟩
  exact HandSPX.exc_get I1.kIn J T.ga T.gg T.sb (PySem.W.findObj_own T.hd hno rfl (by rw [hl, hu])) (handed_of ru) ⟨v, H1, I1.tok _, ru, q⟩
/-- isinstance(e, c) -/
def rXis (K : PySem.W.Frag) (C a : Addr) (d : Option Addr) : List V → Hp → VK → Prop := fun xs H Q => ∃ (c : V) (cv : Value) (b : Bool), xs = [.ref a, c] ∧ (∀ u, RelV c u → u = cv) ∧ PySem.W.kitOne K (.ref C) cv = some b ∧ (∀ dd, d = some dd → ∃ fs, H dd = some (.xd fs)) ∧ Q (.bl b) H
theorem call_xis (T : XFacts X.K C) (hp : (a, oe) ∈ X.pn) (hz : Zc (.ref C) d oe) (hf : ∃ fv, oe.data = .fields fv) : CallR X (.builtin "isinstance") (rXis X.K C a d) := by
  intro pins s σ H xs us Q I r h
  obtain ⟨c, cv, b, rfl, hcv, e, hd, q⟩ := h
  cases r with
  | cons rx rr =>
    cases rr with
    | cons rt rr =>
      cases rr
      cases rx
      have ec := hcv _ rt
      subst ec
      obtain ⟨fv, hv⟩ := hf
      have g1 := (I.pin (a, oe) (List.mem_append_left _ hp)).1
      have fin : ∀ od, PySem.W.InstAt s.heap a oe C od → wpAny (model X.prog X.w) X.A (call (.builtin "isinstance") [.ref a, _]) (EP X pins σ Q) X.xe s := fun od J =>
        PySem.W.kia_one (PySem.W.kitx_exc (gt := none) T.cl T.ga T.gg T.sb T.kl T.gt T.tk T.mr) I.kIn J e (fun z => nomatch z) fun tk => ⟨.bl b, H, I.kept (t' := tk) fun _ _ z => z, rfl, q⟩
      cases d with
      | none => exact fin none ⟨g1, hz.1, by unfold PySem.W.notCls; rw [hv] <;> rfl, by rw [hz.2]; trivial⟩
      | some dd =>
        obtain ⟨fs, ea⟩ := hd dd rfl
        obtain ⟨mA, hns, _⟩ := (I.hok dd _ ea : ObjOk X.prog X.w H s.heap dd (.xd fs))
        obtain ⟨od, ho, _⟩ := lookIn_ns hns
        exact fin (some od) ⟨g1, hz.1, by unfold PySem.W.notCls; rw [hv] <;> rfl, by rw [hz.2]; exact ho⟩
/-! ### making one -/
/-- C(), no __init__ of its own -/
theorem pmk0 {x : Str} {p pos : Pos} (q : PySem.W.excIn X.K C He.veBase "ValueError.__new__" = true) (gC : X.mg x = some (.ref C)) (kC : PySem.W.keepIn X.K (.ref C) = true) (r : Raises X (.ref C)) (hg : Gl X x)
    (hdb : (x == ("__debug__" : Str)) = false) : L2N.PMk X (.Call (.Name x p) [] [] pos) (fun _ H Q => Q (.ref C) none H) := by
  intro pins s σ H Q I h
  refine wpAny_Call_Name_kw (ld_glob I hg gC ?_ hdb)
  refine PySem.W.callWith_K0 I.kIn kC ?_
  show wpAny _ _ (call (.ref C) []) _ _ _
  obtain ⟨bm, N, nm, qn, bs, hdct, sn, sub, ab, col, dd, k0, k1, k2, k3, k5, mN, hC, hN, hni, T⟩ := exc_obj I.kIn q
  obtain ⟨hp, g, dr, tk, os⟩ := s
  refine wpAny_call_exc_subT F.excBase_ValueError T hC hN hni (fun h' e hm => ?_) (by show 0 ≤ sizeLine; omega)
  exact L2N.mk_of I hm r h (I.hok.gone hm.new)
end
end FX

/-! X2: C(e) with an __init__ of its own; calls that may raise, at known slots. -/
namespace FX
open PySem PySem.Spec PyProof.Rows L2
/-- what such an __init__ does: one field is set -/
def spXI (C : Addr) (f : Str) : Sp := fun vs H Q _ => ∃ a v, vs = [.ref a, v] ∧ H a = some (exo a C none) ∧ ∀ dx, H dx = none → dx ≠ a → Q .non (upd (upd H dx (exd dx [(f, v)])) a (exo a C (some dx)))
def tXm (C : Addr) (f : Str) (te : TE) : St → Hp → XK → Prop := fun σ H Q => te σ H fun v H1 => ∀ d, H1 d = none → Q (.ref C) (some d) (upd H1 d (.xd [(f, v)]))
def oneV (P : V → Hp → Prop) : List V → Hp → Prop
  | [v], H => P v H
  | _, _ => False
theorem oneV_some {P : V → Hp → Prop} : ∀ {vs : List V} {H : Hp}, oneV P vs H → ∃ v, vs = [v] ∧ P v H
  | [v], _, h => ⟨v, rfl, h⟩
  | [], _, h => h.elim
  | _ :: _ :: _, _, h => h.elim
section
variable {X : Cx} {CX : CXT} {x f : Str} {e : Expr} {te : TE} {p pos : Pos} {C fI : Addr} {k : Nat} {fd : FuncData} {ps : List Str}
theorem made_eq {H1 : Hp} {a d C : Addr} {f : Str} {v : V} (ha : H1 a = none) (hne : d ≠ a) :
    upd (del (upd (upd (upd H1 a (exo a C none)) d (exd d [(f, v)])) a (exo a C (some d))) a) d (.xd [(f, v)]) = upd H1 d (.xd [(f, v)]) := by
  funext b
  by_cases e1 : b = d
  · subst e1; rw [upd_same, upd_same]
  · rw [upd_ne e1, upd_ne e1]
    by_cases e2 : b = a
    · subst e2; rw [del_same, ha]
    · rw [del_ne e2, upd_ne e2, upd_ne e1, upd_ne e2]
theorem pmk1 (T : OexC X.K C) (iC : PySem.W.findIn X.K (.ref C) "__init__" = some (some (.ref fI))) (tyI : PySem.W.typeIn X.K (.ref fI) = some (.type "function"))
    (F1 : FnOk X.prog X.w X.K X.mg X.base CX k fI fd ps (spXI C f)) (hr : Room (k + 1) X.A) (hb : Binds X.K fd ps []) (hx : Passes CX X (fun _ _ _ => False)) (hg : Gl X x) (hm : X.mg x = some (.ref C)) (he : PE X e te)
    (hdb : (x == ("__debug__" : Str)) = false) (hs : starEach [e] X.env = [(false, eval e X.env)]) : L2N.PMk X (.Call (.Name x p) [e] [] pos) (tXm C f te) := by
  intro pins s σ H Q I h
  obtain ⟨nm, qn, Nn, bs, bm, sn, sb, ab, col, dd, k0, k1, k2, k3, k5, hC, hbm⟩ := T.cls
  refine wpAny_Call_Name_kw (ld_glob I hg hm ?_ hdb)
  have ha : PA X [e] (tCons te tNil) := pa_cons he pa_nil hs
  refine PySem.W.callWith_K (h₀ := X.base) I.ok.mod.kin T.kC (thn (ha.run pos pins s σ H (oneV fun v H1 => ∀ d, H1 d = none → Q (.ref C) (some d) (upd H1 d (.xd [(f, v)]))) I h) fun us s1 hh => ?_) hs (by rfl)
  obtain ⟨vs, H1, I1, r1, q1⟩ := hh
  obtain ⟨v, rfl, q1⟩ := oneV_some q1
  refine ⟨I1.kIn, ?_⟩
  show wpAny _ _ (call (.ref C) us) _ _ _
  obtain ⟨hp, g, dr, tk, os⟩ := s1
  have up1 : hp.objs.size ≤ hp.objs.size + 1 := Nat.le_succ _
  have na : H1 (hp.objs.size + 1) = none := I1.hok.fresh up1
  have keeps : ∀ b o, hp.get? b = some o → ((hp.push (PySem.W.kdv_tup us)).push (PySem.HandSPX.excO C hp.objs.size)).get? b = some o := fun b o e => Heap.get?_push_of_some _ (Heap.get?_push_of_some _ e)
  have there : ((hp.push (PySem.W.kdv_tup us)).push (PySem.HandSPX.excO C hp.objs.size)).get? (hp.objs.size + 1) = some (PySem.HandSPX.excO C hp.objs.size) := by heap_get
  have I2 : Inv X pins σ (upd H1 (hp.objs.size + 1) (exo (hp.objs.size + 1) C none)) ⟨(hp.push (PySem.W.kdv_tup us)).push (PySem.HandSPX.excO C hp.objs.size), g, dr, tk, os⟩ := I1.laid (t' := tk) keeps up1 (exo_ok there)
  have r2 : Vals [V.ref (hp.objs.size + 1), v] (Value.ref (hp.objs.size + 1) :: us) := .cons rfl r1
  have hq : spXI C f [V.ref (hp.objs.size + 1), v] (upd H1 (hp.objs.size + 1) (exo (hp.objs.size + 1) C none)) (fun u H2 => u = .non ∧ ∃ d, d ≠ hp.objs.size + 1 ∧ H1 d = none ∧ H2 = upd (upd (upd H1 (hp.objs.size + 1) (exo (hp.objs.size + 1) C none)) d (exd d [(f, v)])) (hp.objs.size + 1) (exo (hp.objs.size + 1) C (some d))) (fun _ _ _ => False) :=
    ⟨_, _, rfl, upd_same, fun d hd hne => ⟨rfl, d, hne, by rwa [upd_ne hne] at hd, rfl⟩⟩
  have hl : (Value.ref (hp.objs.size + 1) :: us).length = ps.length := by rw [← r2.length]; exact F1.len _ _ _ _ hq
  have b2 := hb _ (Value.ref (hp.objs.size + 1) :: us) I2.kIn (by rw [List.append_nil]; exact hl)
  rw [List.append_nil] at b2
  have small : us.length ≤ sizeLine := by
    rw [← Paired.length r1, sizeLine_eq]
    show 1 ≤ _
    omega
  refine wpAny_call (PySem.HandSPX.call_own F.excBase_ValueError (fun Y => PySem.HandSPX.refsVE_contains Y bm hbm) (I1.kIn _ _ hC) (PySem.W.looks_findIn I1.kIn iC) (fun self => PySem.W.bind_fn I1.kIn self tyI) small
    (codeAny_mono (F1.run _ X.stack _ _ ⟨Value.ref (hp.objs.size + 1) :: us, []⟩ _ _ _ _ (hr.make C us []) (I2.env0.make C us []) b2 r2 hq) fun r s' hq' => ?_))
  cases r with
  | error er => exact hx pins σ _ _ er s' I2 hq'
  | ok fl =>
    cases fl with
    | ret u =>
      obtain ⟨w, H2, os2, bare2, un2, hok2, rv, rfl, d, hne, hd1, rfl⟩ := hq'
      obtain ⟨h2, g2, d2, t2, os'⟩ := s'
      obtain ⟨t0, G, J, kG, ge, hoe, na2⟩ := mk_end0 (d2 := d2) (t2 := t2) (fs := [(f, v)]) I1 up1 keeps un2 hok2 os2 bare2 upd_same (by rw [upd_ne hne]; exact upd_same) hd1
      rw [made_eq na hne] at J na2
      refine ⟨rv, hp.objs.size + 1, _, _, ⟨G, g2, d2, t2, os'⟩, _, .ref C, some d, rfl, J, kG, ge, hoe, ⟨rfl, rfl, fun vs hv => ?_⟩, rfl, rfl, na2, rfl, bare2, raises_own T.exC T.tyC, q1 d hd1⟩
      cases hv
      rfl
    | next => exact False.elim hq'
    | brk => exact False.elim hq'
    | cont => exact False.elim hq'
end
/-! ### calls that may raise -/
section
variable {X : Cx} {CX : CXT} {k : Nat} {f C : Addr} {fd : FuncData} {ps : List Str} {sp : Sp} {E : St → XK} {x m : Str} {p pos apos : Pos} {e o : Expr} {es : List Expr} {ta : TE} {t : TA}
theorem pe_call0S (F : FnOk X.prog X.w X.K X.mg X.base CX k f fd ps sp) (hr : Room k X.A) (hg : Gl X x) (hm : X.mg x = some (.ref f)) (hk : PySem.W.keepIn X.K (.ref f) = true) (hb : Binds X.K fd ps []) (hx : ∀ σ, PassesAt CX X σ (E σ))
    (hdb : (x == ("__debug__" : Str)) = false) : PE X (.Call (.Name x p) [] [] pos) (tCallS sp E tNil) :=
  ⟨fun pins s σ H Q I h => wpAny_Call_Name_kw (ld_glob I hg hm (PySem.W.callWith_K0 I.kIn hk (run_fnS (us := []) F hr hb (hx σ) I .nil h)) hdb)⟩
def tMethS' (C : Addr) (m : Str) (sp : Sp) (E : St → XK) (ta : TE) (t : TA) : TE := fun σ H Q => ta σ H fun y H1 => ∃ a dx fs, y = .ref a ∧ H1 a = some (.ins C dx fs) ∧ fs.lookup m = none ∧ t σ H1 fun vs H2 => sp (y :: vs) H2 Q (E σ)
theorem pe_methS' {pl : Sem Bool} (he : PE X o ta) (c : Cls X.K C) (hm : Meth X.K C m f) (F : FnOk X.prog X.w X.K X.mg X.base CX k f fd ps sp) (hr : Room k X.A) (hb : Binds X.K fd ps []) (hx : ∀ σ, PassesAt CX X σ (E σ)) (ha : PA X (e :: es) t)
    (hst : starEach (e :: es) X.env = (false, eval e X.env) :: starEach es X.env) (hpl : (backTo pos (starEach es X.env)).any (·.1) = false)
    (ht : eval (.Call (.Attribute o m apos) (e :: es) [] pos) X.env = (do let ov ← eval o X.env; standAt apos.atName; let (f, first) ← holding [ov] (getMethod ov m pl); callWith pos f first (backTo pos (starEach (e :: es) X.env)) (backToKw pos (keywordEach [] X.env)))) :
    PE X (.Call (.Attribute o m apos) (e :: es) [] pos) (tMethS' C m sp E ta t) := by
  refine ⟨fun pins s σ H Q I h => PySem.W.methodCall_KW (pl := pl) (thn (he.run pins s σ H _ I h) fun u s1 ⟨y, H1, I1, ry, a, dx, fs, ey, ea, l, q⟩ => ?_) ht⟩
  subst ey
  obtain rfl : u = Value.ref a := ry
  refine getmeth_ok I1 ea c hm l (PySem.W.callWith_K (first := [.ref a]) (h₀ := X.base) I.ok.mod.kin hm.kp (thn (ha.run pos pins s1 σ H1 _ I1 q) fun us s2 ⟨vs, H2, I2, r, q2⟩ => ⟨I2.kIn, ?_⟩) hst hpl)
  exact run_fnS (us := .ref a :: us) (vs := .ref a :: vs) F hr hb (hx σ) I2 (.cons rfl r) q2
theorem pe_meth0S' {pl : Sem Bool} (he : PE X o ta) (c : Cls X.K C) (hm : Meth X.K C m f) (F : FnOk X.prog X.w X.K X.mg X.base CX k f fd ps sp) (hr : Room k X.A) (hb : Binds X.K fd ps []) (hx : ∀ σ, PassesAt CX X σ (E σ))
    (ht : eval (.Call (.Attribute o m apos) [] [] pos) X.env = (do let ov ← eval o X.env; standAt apos.atName; let (f, first) ← holding [ov] (getMethod ov m pl); callWith pos f first (backTo pos (starEach [] X.env)) (backToKw pos (keywordEach [] X.env)))) :
    PE X (.Call (.Attribute o m apos) [] [] pos) (tMethS' C m sp E ta tNil) := by
  refine ⟨fun pins s σ H Q I h => PySem.W.methodCall_KW (pl := pl) (thn (he.run pins s σ H _ I h) fun u s1 ⟨y, H1, I1, ry, a, dx, fs, ey, ea, l, q⟩ => ?_) ht⟩
  subst ey
  obtain rfl : u = Value.ref a := ry
  exact getmeth_ok I1 ea c hm l (PySem.W.callWith_K0 (first := [.ref a]) I1.kIn hm.kp (run_fnS (us := [.ref a]) (vs := [.ref a]) F hr hb (hx σ) I1 (.cons rfl .nil) q))
def tMakeS' (C : Addr) (sp : Sp) (E : St → XK) (t : TA) : TE := fun σ H Q => t σ H fun vs H1 => ∀ x dx, H1 x = none → H1 dx = none → dx ≠ x → sp (.ref x :: vs) (upd (upd H1 dx (.own x)) x (.ins C dx [])) (fun v H2 => v = .non ∧ Q (.ref x) H2) (E σ)
theorem run_makeS {pins : List (Addr × Obj)} {σ : St} {H : Hp} {s : Shared} {Q : VK} {us : List Value} {vs : List V} (M : Mk X.K C f) (F : FnOk X.prog X.w X.K X.mg X.base CX k f fd ps sp) (hr : Room (k + 1) X.A) (hb : Binds X.K fd ps []) (hx : PassesAt CX X σ (E σ)) (I : Inv X pins σ H s) (r : Vals vs us)
    (h : ∀ x dx, H x = none → H dx = none → dx ≠ x → sp (.ref x :: vs) (upd (upd H dx (.own x)) x (.ins C dx [])) (fun v H2 => v = .non ∧ Q (.ref x) H2) (E σ)) : wpAny (model X.prog X.w) X.A (call (.ref C) us) (EP X pins σ Q) X.xe s := by
  have hq := h _ _ (I.hok.fresh (Nat.le_succ _)) (I.hok.fresh (Nat.le_refl _)) (Nat.ne_of_lt (Nat.lt_succ_self _))
  have I2 := Inv.made (C := C) I
  have r2 : Vals (V.ref (s.heap.objs.size + 1) :: vs) (Value.ref (s.heap.objs.size + 1) :: us) := .cons rfl r
  have hl : (Value.ref (s.heap.objs.size + 1) :: us).length = ps.length := by rw [← r2.length]; exact F.len _ _ _ _ hq
  have b2 := hb _ (Value.ref (s.heap.objs.size + 1) :: us) I2.kIn (by rw [List.append_nil]; exact hl)
  rw [List.append_nil] at b2
  refine wpAny_call (make_map (f := f) I.kIn M.makes M.init (beq_iff_eq.mp M.fn) (codeAny_mono (F.run _ X.stack _ _ ⟨Value.ref (s.heap.objs.size + 1) :: us, []⟩ _ _ _ _ (hr.make C us []) (I2.env0.make C us []) b2 r2 hq) fun r s' hq' => ?_))
  cases r with
  | error e => exact hx pins _ _ e s' I2 hq'
  | ok fl =>
    cases fl with
    | ret u =>
      obtain ⟨v, H', I3, rv, rfl, q3⟩ := I2.after hq'
      exact ⟨rv, V.ref (s.heap.objs.size + 1), H', I3, rfl, q3⟩
    | next => exact False.elim hq'
    | brk => exact False.elim hq'
    | cont => exact False.elim hq'
theorem pe_makeS' (M : Mk X.K C f) (F : FnOk X.prog X.w X.K X.mg X.base CX k f fd ps sp) (hr : Room (k + 1) X.A) (hg : Gl X x) (hm : X.mg x = some (.ref C)) (hb : Binds X.K fd ps []) (hx : ∀ σ, PassesAt CX X σ (E σ)) (ha : PA X (e :: es) t)
    (hdb : (x == ("__debug__" : Str)) = false) (he : starEach (e :: es) X.env = (false, eval e X.env) :: starEach es X.env) (hpl : (backTo pos (starEach es X.env)).any (·.1) = false) : PE X (.Call (.Name x p) (e :: es) [] pos) (tMakeS' C sp E t) :=
  ⟨fun pins s σ H Q I h => wpAny_Call_Name_kw (ld_glob I hg hm (PySem.W.callWith_K (h₀ := X.base) I.ok.mod.kin M.kp (thn (ha.run pos pins s σ H _ I h) fun us s1 ⟨vs, H1, I1, r, q⟩ => ⟨I1.kIn, run_makeS M F hr hb (hx σ) I1 r q⟩) he hpl) hdb)⟩
theorem pe_make0S' (M : Mk X.K C f) (F : FnOk X.prog X.w X.K X.mg X.base CX k f fd ps sp) (hr : Room (k + 1) X.A) (hg : Gl X x) (hm : X.mg x = some (.ref C)) (hb : Binds X.K fd ps []) (hx : ∀ σ, PassesAt CX X σ (E σ)) (hdb : (x == ("__debug__" : Str)) = false) :
    PE X (.Call (.Name x p) [] [] pos) (tMakeS' C sp E tNil) :=
  ⟨fun pins s σ H Q I h => wpAny_Call_Name_kw (ld_glob I hg hm (PySem.W.callWith_K0 I.kIn M.kp (run_makeS (us := []) M F hr hb (hx σ) I .nil h)) hdb)⟩
end
end FX

/-! X6: o[i], o an object of a class with its own __getitem__. -/
namespace FX
open PySem PySem.Spec PyProof.Rows L2
def tGti (C : Addr) (sp : Sp) (E : St → XK) (ta tb : TE) : TE := fun σ H Q => ta σ H fun x H1 => tb σ H1 fun y H2 => ∃ a dx fs, x = .ref a ∧ H2 a = some (.ins C dx fs) ∧ sp [x, y] H2 Q (E σ)
theorem pe_gti {X : Cx} {CX : CXT} {k : Nat} {f C : Addr} {fd : FuncData} {ps : List Str} {sp : Sp} {E : St → XK} {a b : Expr} {ta tb : TE} {pos : Pos} (ha : PE X a ta) (hb : PE X b tb) (hm : Meth X.K C "__getitem__" f) (hfi : PySem.W.fnIn X.K f = true) (F : FnOk X.prog X.w X.K X.mg X.base CX k f fd ps sp)
    (hr : Room (k + 1) X.A) (hbd : Binds X.K fd ps []) (hx : ∀ σ, PassesAt CX X σ (E σ)) (hsl : ∀ x i, subscripted b true (.ref x) i = runValue (.builtin "lifetime.subscript" ⟨[.ref x, i], []⟩)) : PE X (.Subscript a b pos) (tGti C sp E ta tb) := by
  refine ⟨fun pins s σ H Q I h => Subscript_ ?_⟩
  refine thn (ha.run pins s σ H _ I h) fun v s1 ⟨x, H1, I1, rx, q1⟩ => thn (hb.run pins s1 σ H1 _ I1 q1) fun u s2 ⟨y, H2, I2, ry, p, dx, fs, ex, ea, q⟩ => ?_
  subst ex
  obtain rfl : v = Value.ref p := rx
  obtain ⟨mA, O, _, _, _, _⟩ := ins_get I2.hok ea
  obtain ⟨od, In, _⟩ := O.look
  obtain ⟨m, fr⟩ := I2.fr
  refine PySem.W.sub_K fr I2.ok.mod.kin In hm.at_ hfi hm.fn ?_ (hsl p u)
  have r : Vals [V.ref p, y] [Value.ref p, u] := .cons rfl (.cons ry .nil)
  have hl : ([Value.ref p, u] : List Value).length = ps.length := by rw [← r.length]; exact F.len _ _ _ _ q
  have bb := hbd s2 [.ref p, u] I2.kIn (by rw [List.append_nil]; exact hl)
  rw [List.append_nil] at bb
  refine wpAny_call (codeAny_mono (F.run X.A.in1 X.stack s2 H2 ⟨[.ref p, u], []⟩ _ _ Q (E σ) hr.in1 I2.env0.in1 bb r q) fun r s' hq => ?_)
  cases r with
  | error e => exact hx σ pins H2 s2 e s' I2 hq
  | ok fl =>
    cases fl with
    | ret w => exact I2.after hq
    | next => exact False.elim hq
    | brk => exact False.elim hq
    | cont => exact False.elim hq
end FX

/-! X8: == by an own __eq__. -/
namespace FX
open PySem PySem.Spec PyProof.Rows L2
def tyNames : List String := ["NoneType", "bool", "int", "str", "tuple", "list", "dict"]
def RightOk (K : PySem.W.Frag) (C : Addr) (y : V) (H : Hp) : Prop := (∃ n, n ∈ tyNames ∧ TyX K H y (.type n)) ∨ ∃ b dx fs, y = .ref b ∧ H b = some (.ins C dx fs)
def rOeq (K : PySem.W.Frag) (C : Addr) (sp : Sp) (E : XK) : R2 := fun x y H Q => (∃ a dx fs, x = .ref a ∧ H a = some (.ins C dx fs)) ∧ RightOk K C y H ∧ sp [x, y] H (fun v H' => (∃ b, v = .bl b) ∧ Q v H') E
theorem opr_oeq {X : Cx} {CX : CXT} {k : Nat} {f C : Addr} {fd : FuncData} {ps : List Str} {sp : Sp} {E : XK} (hm : Meth X.K C "__eq__" f) (hs : ∀ n ∈ tyNames, PySem.W.subIn X.K (.type n) (.ref C) = some false)
    (F : FnOk X.prog X.w X.K X.mg X.base CX k f fd ps sp) (hr : Room k X.A) (hbd : Binds X.K fd ps []) (hx : Passes CX X E) : OpR X (compareOp .Eq) (rOeq X.K C sp E) := by
  intro pins s σ H x y v u Q I rx ry hq
  obtain ⟨⟨a, dx, fs, rfl, ha⟩, hR, q⟩ := hq
  obtain rfl : v = Value.ref a := rx
  obtain ⟨mA, J, _⟩ := ins_get I.hok ha
  obtain ⟨od, J, _⟩ := J.look
  obtain ⟨m, hF⟩ := I.fr
  have key : ∃ tb, PySem.W.Looks (model X.prog X.w) s.heap (typeOf u) tb ∧ PySem.W.notFirst X.K C tb = true := by
    rcases hR with ⟨n, hn, ty⟩ | ⟨b, dy, gs, rfl, hb⟩
    · obtain ⟨P, Z, p, _⟩ := kit_of I ry ty
      exact ⟨.type n, Z.ty _ _ I.kIn p, by unfold PySem.W.notFirst; rw [hs n hn]; simp⟩
    · obtain rfl : u = Value.ref b := ry
      obtain ⟨mB, J', _⟩ := ins_get I.hok hb
      obtain ⟨od', J', _⟩ := J'.look
      exact ⟨.ref C, J'.type, by simp [PySem.W.notFirst]⟩
  obtain ⟨tb, hl, hn⟩ := key
  show wpAny (model X.prog X.w) X.A (richCompare .Eq (.ref a) u) (EP X pins σ Q) X.xe s
  refine PySem.W.cmp_K (op := .Eq) (tb := tb) hr.units0 hF I.ok.mod.kin J hl hn hm.at_ hm.fn ?_
  have hlen := F.len _ _ _ _ q
  have r2 : Vals [V.ref a, y] [Value.ref a, u] := .cons rfl (.cons ry .nil)
  refine wpAny_call (codeAny_mono (F.run X.A X.stack s H ⟨[.ref a, u], []⟩ [.ref a, u] [.ref a, y] _ E hr I.env0 (by
    have := hbd s [.ref a, u] I.kIn (by simpa using hlen)
    simpa using this) r2 q) fun r s' hq => ?_)
  cases r with
  | error e => exact hx pins σ H s e s' I hq
  | ok fl =>
    cases fl with
    | ret w =>
      obtain ⟨z, H', I', rz, ⟨b, ez⟩, q'⟩ := I.after hq
      subst ez
      obtain rfl : w = Value.bool b := rz
      exact ⟨.bl b, H', I', rfl, q'⟩
    | next => exact False.elim hq
    | brk => exact False.elim hq
    | cont => exact False.elim hq
end FX

/-! F12: statements. -/
namespace FL
open PySem PySem.Spec PyProof.Rows L2 StX
def Agree (io : List Nat) (σ σ' : L2.St) : Prop := σ'.length = σ.length ∧ ∀ i ∈ io, σ'[i]? = σ[i]?
theorem Agree.refl {io : List Nat} {σ : L2.St} : Agree io σ σ := ⟨rfl, fun _ _ => rfl⟩
theorem Agree.trans {io : List Nat} {a b c : L2.St} (h : Agree io a b) (g : Agree io b c) : Agree io a c := ⟨g.1.trans h.1, fun i hi => (g.2 i hi).trans (h.2 i hi)⟩
theorem Same.agree {is io : List Nat} {a b : L2.St} (h : Same is a b) (d : ∀ i ∈ is, i ∉ io) : Agree io a b := ⟨h.1, fun i hi => h.2 i fun z => d i z hi⟩
def FlowOk (K : PySem.W.Frag) (Gf : Hp) (N : List Addr) (ts : List Root) (io : List Nat) (W : WX) (σ : L2.St) (Dn : Ends) : Flow → Prop
  | .nx ρ' => ∀ σ' H', Agree io σ σ' → σ'.length = ρ'.length → SR K Gf N H' (ts ++ σ'.zip ρ') → Dn.nx σ' H'
  | .bk ρ' => ∀ σ' H', Agree io σ σ' → σ'.length = ρ'.length → SR K Gf N H' (ts ++ σ'.zip ρ') → Dn.bk σ' H'
  | .ct ρ' => ∀ σ' H', Agree io σ σ' → σ'.length = ρ'.length → SR K Gf N H' (ts ++ σ'.zip ρ') → Dn.ct σ' H'
  | .rt d ρ' => ∀ v σ' H', Agree io σ σ' → σ'.length = ρ'.length → SR K Gf N H' (tmp v d :: (ts ++ σ'.zip ρ')) → Dn.rt v H'
  | .ex x ρ' => ∀ cls d σ' H', Agree io σ σ' → σ'.length = ρ'.length → XSR K Gf N H' cls d x (ts ++ σ'.zip ρ') → W cls d σ' H'
theorem FlowOk.agree {K : PySem.W.Frag} {Gf : Hp} {N : List Addr} {ts : List Root} {io : List Nat} {W : WX} {σ σ1 : L2.St} {Dn : Ends} {fl : Flow} (h : FlowOk K Gf N ts io W σ Dn fl) (a : Agree io σ σ1) : FlowOk K Gf N ts io W σ1 Dn fl := by
  cases fl with
  | nx ρ => exact fun σ' H' b l s => h σ' H' (a.trans b) l s
  | bk ρ => exact fun σ' H' b l s => h σ' H' (a.trans b) l s
  | ct ρ => exact fun σ' H' b l s => h σ' H' (a.trans b) l s
  | rt d ρ => exact fun v σ' H' b l s => h v σ' H' (a.trans b) l s
  | ex x ρ => exact fun cls d σ' H' b l s => h cls d σ' H' (a.trans b) l s
def tX (K : PySem.W.Frag) (io : List Nat) (W : WX) (ex : Env → Option Flow) : TS := fun Dn σ H => ∃ Gf N ts ρ, σ.length = ρ.length ∧ SR K Gf N H (ts ++ σ.zip ρ) ∧ ∃ fl, ex ρ = some fl ∧ FlowOk K Gf N ts io W σ Dn fl
abbrev PXS (X : Cx) (io : List Nat) (W : WX) (st : Stmt) (ex : Env → Option Flow) : Prop := PS X st (tX X.K io W ex)
abbrev PXSs (X : Cx) (io : List Nat) (W : WX) (st : List Stmt) (ex : Env → Option Flow) : Prop := PSs X st (tX X.K io W ex)
theorem ps_imp {X : Cx} {e : Stmt} {t t' : TS} (h : PS X e t) (f : ∀ D σ H, t' D σ H → t D σ H) : PS X e t' := ⟨fun pins s σ H D I q => h.run pins s σ H D I (f D σ H q)⟩
theorem pss_imp {X : Cx} {e : List Stmt} {t t' : TS} (h : PSs X e t) (f : ∀ D σ H, t' D σ H → t D σ H) : PSs X e t' := ⟨fun pins s σ H D I q => h.run pins s σ H D I (f D σ H q)⟩
theorem pxss_alt {X : Cx} {io : List Nat} {W : WX} {st : List Stmt} {xa xb : Env → Option Flow} (ha : PXSs X io W st xa) (hb : PXSs X io W st xb) : PXSs X io W st (fun ρ => altF (xa ρ) (xb ρ)) :=
  ⟨fun pins s σ H D I q => by
    obtain ⟨Gf, N, ts, ρ, hl, hs, fl, e, q⟩ := q
    have e' : altF (xa ρ) (xb ρ) = some fl := e
    cases h : xa ρ with
    | some f =>
      rw [h] at e'
      have e2 : some f = some fl := e'
      exact ha.run pins s σ H D I ⟨Gf, N, ts, ρ, hl, hs, fl, h.trans e2, q⟩
    | none =>
      rw [h] at e'
      have e2 : xb ρ = some fl := e'
      exact hb.run pins s σ H D I ⟨Gf, N, ts, ρ, hl, hs, fl, e2, q⟩⟩
theorem pxs_cg {X : Cx} {io : List Nat} {W : WX} {st : Stmt} {ev ev' : Env → Option Flow} (h : PXS X io W st ev) (f : ∀ ρ, ev' ρ = ev ρ) : PXS X io W st ev' := by
  have : ev' = ev := funext f
  rw [this]; exact h
theorem pxss_cg {X : Cx} {io : List Nat} {W : WX} {st : List Stmt} {ev ev' : Env → Option Flow} (h : PXSs X io W st ev) (f : ∀ ρ, ev' ρ = ev ρ) : PXSs X io W st ev' := by
  have : ev' = ev := funext f
  rw [this]; exact h
section
variable {X : Cx} {io : List Nat} {W : WX} {st : Stmt} {sts : List Stmt} {ea eb : Env → Option (D × Env)} {xa xb : Env → Option Flow} {pos : Pos}
theorem pxs_nev : PXS X io W st (fun _ => none) := ps_imp ps_never fun D σ H ⟨_, _, _, _, _, _, _, e, _⟩ => by cases e
theorem pxs_flow {fl : Env → Flow} (h : ∀ (D : Ends) (σ : L2.St) (H : Hp), tX X.K io W (fun ρ => some (fl ρ)) D σ H → ∃ t, PS X st t ∧ t D σ H) : PXS X io W st (fun ρ => some (fl ρ)) := ⟨fun pins s σ H D I q => by
  obtain ⟨t, p, q'⟩ := h D σ H q
  exact p.run pins s σ H D I q'⟩
theorem pxs_pass (h : PS X st tNext) : PXS X io W st (fun ρ => some (.nx ρ)) := ps_imp h fun D σ H ⟨Gf, N, ts, ρ, hl, hs, fl, e, q⟩ => by
  cases e; exact q σ H .refl hl hs
theorem pxs_brk (h : PS X st tBreak) : PXS X io W st (fun ρ => some (.bk ρ)) := ps_imp h fun D σ H ⟨Gf, N, ts, ρ, hl, hs, fl, e, q⟩ => by
  cases e; exact q σ H .refl hl hs
theorem pxs_cnt (h : PS X st tCont) : PXS X io W st (fun ρ => some (.ct ρ)) := ps_imp h fun D σ H ⟨Gf, N, ts, ρ, hl, hs, fl, e, q⟩ => by
  cases e; exact q σ H .refl hl hs
theorem pxs_retN (h : PS X st tRetN) : PXS X io W st (fun ρ => some (.rt .non ρ)) := ps_imp h fun D σ H ⟨Gf, N, ts, ρ, hl, hs, fl, e, q⟩ => by
  cases e; exact q .non σ H .refl hl (hs.flat .non)
theorem pxs_ret (la : Ln ea) (h : PS X st (tRet (tI X.K ea))) : PXS X io W st (fun ρ => (ea ρ).map fun p => .rt p.1 p.2) := ps_imp h fun D σ H ⟨Gf, N, ts, ρ, hl, hs, fl, e, q⟩ => by
  obtain ⟨p, e1, rfl⟩ := mpd e
  exact ⟨Gf, N, ts, ρ, hl, hs, p, e1, fun v H' h' => q v σ H' .refl (hl.trans (la _ _ e1).symm) h'⟩
theorem pxs_ex (la : Ln ea) (h : PS X st (tDrop (tI X.K ea))) : PXS X io W st (fun ρ => (ea ρ).map fun p => .nx p.2) := ps_imp h fun D σ H ⟨Gf, N, ts, ρ, hl, hs, fl, e, q⟩ => by
  obtain ⟨p, e1, rfl⟩ := mpd e
  exact ⟨Gf, N, ts, ρ, hl, hs, p, e1, fun v H' h' => q σ H' .refl (hl.trans (la _ _ e1).symm) h'.drop⟩
theorem pxs_set {t : Tg} {te : TE} (hd : ∀ i ∈ t.slots, i ∉ io) (la : Ln ea) (hte : ∀ σ H Q, tI X.K ea σ H Q → te σ H Q) (h : PS X st (tAsg te (gT X.K t))) : PXS X io W st (fun ρ => (ea ρ).bind fun p => (bindT t p.1 p.2).map .nx) := ps_imp h fun D σ H ⟨Gf, N, ts, ρ, hl, hs, fl, e, q⟩ => by
  obtain ⟨p, e1, e⟩ := bnd e
  obtain ⟨ρ1, e2, rfl⟩ := mpd e
  have l1 := la _ _ e1
  refine hte _ _ _ ⟨Gf, N, ts, ρ, hl, hs, p, e1, fun v H' h' => tg_ok t (hl.trans l1.symm) h' e2 fun σ' H2 sm l2 h2 => q σ' H2 (sm.agree hd) ?_ h2⟩
  rw [sm.1, hl, l2, l1]
theorem setID_some {x k d z : D} (h : setID x k d = some z) : ∃ xs i j, x = .lst .own xs ∧ k = .int i ∧ ixN xs.length i = some j ∧ z = .lst .own (xs.set j d) := by
  unfold setID at h
  split at h
  · obtain ⟨j, e, rfl⟩ := mpd h
    exact ⟨_, _, j, rfl, rfl, e, rfl⟩
  · cases h
theorem ixN_lt {n : Nat} {i : Int} {j : Nat} (h : ixN n i = some j) : j < n := by
  unfold ixN at h
  split at h
  · split at h
    · cases h; omega
    · cases h
  · split at h
    · cases h; omega
    · cases h
theorem pxs_setI {i : Nat} (la : Ln ea) (lb : Ln eb) (h : PS X st (tAsg (tI X.K ea) (gSub (tVar i) (tI X.K eb) rSetL))) :
    PXS X io W st (fun ρ => (ea ρ).bind fun p => (getS p.2 i).bind fun _ => (eb p.2).bind fun q => (getS q.2 i).bind fun x => (setID x q.1 p.1).map fun z => .nx (q.2.set i (some z))) := ps_imp h fun D σ H ⟨Gf, N, ts, ρ, hl, hs, fl, e, q⟩ => by
  obtain ⟨p, e1, e⟩ := bnd e
  obtain ⟨x0, e0, e⟩ := bnd e
  obtain ⟨pb, e2, e⟩ := bnd e
  obtain ⟨x, e3, e⟩ := bnd e
  obtain ⟨z, e4, rfl⟩ := mpd e
  obtain ⟨xs, k, j, rfl, ek, ej, rfl⟩ := setID_some e4
  have l1 := la _ _ e1
  have l2 := lb _ _ e2
  refine ⟨Gf, N, ts, ρ, hl, hs, p, e1, fun v H1 h1 => ?_⟩
  obtain ⟨w, ew⟩ := SR.slotV (ts := tmp v p.1 :: ts) h1 (hl.trans l1.symm) e0
  refine ⟨w, ew, Gf, N, tmp v p.1 :: ts, p.2, hl.trans l1.symm, h1, pb, e2, fun y H2 h2 => ?_⟩
  have h3 := SR.take (ts := tmp y pb.1 :: tmp v p.1 :: ts) h2 e3 ew
  rw [ek] at h3
  have h4 : SR X.K Gf N H2 (tmp w (.lst .own xs) :: tmp v p.1 :: (ts ++ σ.zip (pb.2.set i none))) := h3.dropMid
  have hy : y = .int k := SR.isInt (v := y) h3.swap2
  obtain ⟨a, vs, ea', ca, la'⟩ := h4.contV rfl
  subst ea'
  obtain ⟨vs', ev', lv', f⟩ := h4.setAt
  refine ⟨a, vs', k, j, rfl, hy, ev', by rw [lv']; exact ej, ?_⟩
  have h5 := f j (ixN_lt ej)
  have h6 := SR.put (ts := ts) (σ := σ) (i := i) h5 (by rw [len_set]; exact getS_lt e3) ew
  rw [List.set_set] at h6
  exact q σ _ .refl (by rw [len_set, l2, l1]; exact hl) h6
theorem setFD_some {x d z : D} {f : Str} (h : setFD x f d = some z) : ∃ c ns xs, x = .obj .own c ns xs ∧ xs.length < 1000 ∧ z = .obj .own c (putD ns xs f d).1 (putD ns xs f d).2 := by
  unfold setFD at h
  split at h
  · split at h
    · cases h; exact ⟨_, _, _, rfl, by assumption, rfl⟩
    · cases h
  · cases h
theorem pxs_setF {cs : List (Str × List Str)} (hc : ClsOk X.K cs) {i : Nat} {f : Str} (la : Ln ea) (h : PS X st (sFld X.K (tVar i) (tI X.K ea) f)) :
    PXS X io W st (fun ρ => (ea ρ).bind fun p => (getS p.2 i).bind fun x => if hasFld cs f x = true then (setFD x f p.1).map fun z => .nx (p.2.set i (some z)) else none) := ps_imp h fun D σ H ⟨Gf, N, ts, ρ, hl, hs, fl, e, q⟩ => by
  obtain ⟨p, e1, e⟩ := bnd e
  obtain ⟨x, e3, e⟩ := bnd e
  split at e
  · rename_i hf
    obtain ⟨z, e4, rfl⟩ := mpd e
    obtain ⟨c, ns, xs, rfl, hz, rfl⟩ := setFD_some e4
    have l1 := la _ _ e1
    refine ⟨Gf, N, ts, ρ, hl, hs, p, e1, fun v H1 h1 => ?_⟩
    obtain ⟨w, ew⟩ := SR.slotV (ts := tmp v p.1 :: ts) h1 (hl.trans l1.symm) e3
    have h3 := SR.take (ts := tmp v p.1 :: ts) h1 e3 ew
    obtain ⟨a, vs, ea', ca, la'⟩ := h3.contV rfl
    subst ea'
    obtain ⟨dx, fs, eH, lf, h4⟩ := SR.setF (f := f) h3
    refine ⟨.ref a, ew, a, _, dx, fs, rfl, eH, (hasFld_ok hc hf).1, (hasFld_ok hc hf).2, by rw [lf]; exact hz, ?_⟩
    have h6 := SR.put (ts := ts) (σ := σ) (i := i) h4 (by rw [len_set]; exact getS_lt e3) ew
    rw [List.set_set] at h6
    exact q σ _ .refl (by rw [len_set, l1]; exact hl) h6
  · cases e
theorem pxs_aug {i : Nat} {op : BOp} {g : Int → Int → Int} (hd : i ∉ io) (hop : ∀ x y z, augD op x y = some z → ∃ a b, x = .int a ∧ y = .int b ∧ z = .int (g a b)) (la : Ln ea) (h : PS X st (tAug i (tI X.K ea) (ipI g))) :
    PXS X io W st (fun ρ => (getS ρ i).bind fun x => (ea ρ).bind fun p => (augD op x p.1).bind fun z => (putS p.2 i z).map .nx) := ps_imp h fun D σ H ⟨Gf, N, ts, ρ, hl, hs, fl, e, q⟩ => by
  obtain ⟨x, e0, e⟩ := bnd e
  obtain ⟨p, e1, e⟩ := bnd e
  obtain ⟨z, e2, e⟩ := bnd e
  obtain ⟨ρ1, e3, rfl⟩ := mpd e
  obtain ⟨hi, rfl⟩ := putS_some e3
  obtain ⟨a, b, rfl, eb, rfl⟩ := hop _ _ _ e2
  have l1 := la _ _ e1
  obtain ⟨w, ew⟩ := hs.slotV hl e0
  have hw : w = .int a := (hs.take e0 ew).isInt
  refine ⟨w, ew, Gf, N, ts, ρ, hl, hs, p, e1, fun v H1 h1 => ?_⟩
  rw [eb] at h1
  refine ⟨a, b, hw, h1.isInt, ?_⟩
  have h2 := (h1.drop.flat (.int (g a b))).store (hl.trans l1.symm) hi
  exact q _ _ ((Same.set (is := [i]) (by simp)).agree fun j hj => by simp at hj; subst hj; exact hd) (by rw [List.length_set, len_set, l1]; exact hl) h2
theorem appD_some {x d z : D} (h : appD x d = some z) : ∃ xs, x = .lst .own xs ∧ xs.length < SZ ∧ z = .lst .own (xs ++ [d]) := by
  unfold appD at h
  split at h
  · split at h
    · cases h; exact ⟨_, rfl, by assumption, rfl⟩
    · cases h
  · cases h
theorem pxs_app {i : Nat} (la : Ln ea) (h : PS X st (tDrop (tBM X.K "list" rAppend (tVar i) (tCons (tI X.K ea) tNil)))) :
    PXS X io W st (fun ρ => (getS ρ i).bind fun x0 => if isLst x0 = true then (ea ρ).bind fun p => (getS p.2 i).bind fun x => (appD x p.1).map fun z => .nx (p.2.set i (some z)) else none) := ps_imp h fun D σ H ⟨Gf, N, ts, ρ, hl, hs, fl, e, q⟩ => by
  obtain ⟨x0, e0, e⟩ := bnd e
  split at e
  · rename_i hlst
    obtain ⟨p, e1, e⟩ := bnd e
    obtain ⟨x, e3, e⟩ := bnd e
    obtain ⟨z, e4, rfl⟩ := mpd e
    obtain ⟨xs, rfl, hz, rfl⟩ := appD_some e4
    have l1 := la _ _ e1
    obtain ⟨w, ew⟩ := hs.slotV hl e0
    have ty : tyV X.K "list" w H := by
      cases x0 <;> simp only [isLst, reduceCtorEq] at hlst
      obtain ⟨a, vs, ea', ca, la'⟩ := (hs.take e0 ew).contV rfl
      subst ea'
      exact .inl ⟨rfl, vs, ca.1⟩
    refine ⟨w, ew, ty, Gf, N, ts, ρ, hl, hs, p, e1, fun v H1 h1 => ?_⟩
    have h3 := SR.take (ts := tmp v p.1 :: ts) h1 e3 ew
    obtain ⟨a, vs, ea', ca, la'⟩ := h3.contV rfl
    subst ea'
    obtain ⟨vs', ev', lv', h4⟩ := h3.push
    refine ⟨a, vs', v, rfl, rfl, ev', by rw [lv', sizeLine_eq]; exact hz, ?_⟩
    have h6 := SR.put (ts := ts) (σ := σ) (i := i) h4 (by rw [len_set]; exact getS_lt e3) ew
    rw [List.set_set] at h6
    exact q σ _ .refl (by rw [len_set, l1]; exact hl) h6
  · cases e
def iteS (ea : Env → Option (D × Env)) (xa xb : Env → Option Flow) : Env → Option Flow := fun ρ => (ea ρ).bind fun p => match p.1 with
    | .bl true => xa p.2
    | .bl false => xb p.2
    | _ => none
theorem pxs_ite {c : Expr} {a b : List Stmt} (hc : PXT X c (asT ea)) (la : Ln ea) (ha : PXSs X io W a xa) (hb : PXSs X io W b xb) : PXS X io W (.If c a b pos) (iteS ea xa xb) := ps_imp (ps_if hc.pt ha hb) fun D σ H ⟨Gf, N, ts, ρ, hl, hs, fl, e, q⟩ => by
  obtain ⟨⟨d, ρ1⟩, e1, e⟩ := bnd e
  cases d with
  | bl k =>
    refine ⟨Gf, N, ts, ρ, hl, hs, (k, ρ1), asT_bl e1, fun H1 h1 => ?_⟩
    cases k with
    | true => exact iteT ⟨Gf, N, ts, ρ1, hl.trans (la _ _ e1).symm, h1, fl, e, q⟩
    | false => exact iteF ⟨Gf, N, ts, ρ1, hl.trans (la _ _ e1).symm, h1, fl, e, q⟩
  | _ => cases e
theorem pxss_nil : PXSs X io W [] (fun ρ => some (.nx ρ)) := pss_imp pss_nil fun D σ H ⟨Gf, N, ts, ρ, hl, hs, fl, e, q⟩ => by
  cases e; exact q σ H .refl hl hs
def seqS (xa xb : Env → Option Flow) : Env → Option Flow := fun ρ => (xa ρ).bind fun fl => match fl with
    | .nx ρ1 => xb ρ1
    | fl => some fl
theorem pxss_cons (ha : PXS X io W st xa) (hb : PXSs X io W sts xb) : PXSs X io W (st :: sts) (seqS xa xb) := pss_imp (pss_cons ha hb) fun D σ H ⟨Gf, N, ts, ρ, hl, hs, fl, e, q⟩ => by
  obtain ⟨f1, e1, e⟩ := bnd e
  refine ⟨Gf, N, ts, ρ, hl, hs, f1, e1, ?_⟩
  cases f1 with
  | nx ρ1 => exact fun σ' H' a l h => ⟨Gf, N, ts, ρ1, l, h, fl, e, q.agree a⟩
  | bk ρ1 => cases e; exact q
  | ct ρ1 => cases e; exact q
  | rt d ρ1 => cases e; exact q
  | ex x ρ1 => cases e; exact q
/-! ### loops -/
theorem pxs_loop {t : Tg} {tg it : Expr} {body : List Stmt} {ei : Env → Option (List D × Env)} (hd : ∀ i ∈ t.slots, i ∉ io) (hi : PXI X tg it ei) (hb : PXSs X io W body xb) (h : PS X st (tFor (tIt X.K ei) (gT X.K t) (tX X.K io W xb))) :
    PXS X io W st (fun ρ => (ei ρ).bind fun p => forL (bindT t) xb p.1 p.2) := ps_imp h fun D σ H ⟨Gf, N, ts, ρ, hl, hs, fl, e, q⟩ => by
  obtain ⟨⟨items, ρ0⟩, e1, e⟩ := bnd e
  refine ⟨Gf, N, ts, ρ, hl, hs, _, e1, fun J cs H1 wk h1 => ?_⟩
  refine ⟨fun i m σ' H' => m = items.length - i ∧ i ≤ items.length ∧ ∃ ρi, Agree io σ σ' ∧ σ'.length = ρi.length ∧ SR X.K Gf N H' (cs ++ (ts ++ σ'.zip ρi)) ∧ forL (bindT t) xb (items.drop i) ρi = some fl,
    ⟨items.length, by simp, Nat.zero_le _, ρ0, .refl, hl.trans (hi.ln _ _ e1).symm, h1, by simpa using e⟩, ?_⟩
  rintro i m σ' H' ⟨rfl, hle, ρi, ag, lr, hS, hC⟩
  obtain ⟨wg, ws⟩ := wk i hS
  by_cases hlt : i < items.length
  · refine .inr ?_
    have ed : items[i]? = some items[i] := List.getElem?_eq_getElem hlt
    rw [List.drop_eq_getElem_cons hlt] at hC
    simp only [forL] at hC
    obtain ⟨ρ1, e3, hC⟩ := bnd hC
    obtain ⟨f1, e4, hC⟩ := bnd hC
    obtain ⟨go, yl⟩ := wg _ ed
    refine ⟨go, fun σ2 H2 => ∃ ρi, Agree io σ σ2 ∧ σ2.length = ρi.length ∧ SR X.K Gf N H2 (cs ++ (ts ++ σ2.zip ρi)) ∧ forL (bindT t) xb (items.drop (i + 1)) ρi = some fl,
      fun σ2 H2 h2 => ⟨items.length - (i + 1), by omega, rfl, by omega, h2⟩, fun x H2 y => ?_⟩
    have h3 : SR X.K Gf N H2 (tmp x items[i] :: ((cs ++ ts) ++ σ'.zip ρi)) := by rw [List.append_assoc]; exact yl x H2 y
    refine tg_ok t lr h3 e3 fun σ2 H3 sm l1 h4 => ?_
    have ag2 : Agree io σ σ2 := ag.trans (sm.agree hd)
    refine ⟨Gf, N, cs ++ ts, ρ1, by rw [sm.1, lr, l1], h4, f1, e4, ?_⟩
    cases f1 with
    | nx ρ2 => exact fun σ3 H4 a l h5 => ⟨ρ2, ag2.trans a, l, by rw [← List.append_assoc]; exact h5, hC⟩
    | ct ρ2 => exact fun σ3 H4 a l h5 => ⟨ρ2, ag2.trans a, l, by rw [← List.append_assoc]; exact h5, hC⟩
    | bk ρ2 =>
      cases hC
      exact fun σ3 H4 a l h5 => q σ3 H4 (ag2.trans a) l (by rw [List.append_assoc] at h5; exact h5.dropL)
    | rt d ρ2 =>
      cases hC
      refine fun v σ3 H4 a l h5 => q v σ3 H4 (ag2.trans a) l ?_
      have h6 : SR X.K Gf N H4 (cs ++ (tmp v d :: (ts ++ σ3.zip ρ2))) := by
        refine h5.perm ?_
        rw [List.append_assoc]
        exact List.perm_middle.symm
      exact h6.dropL
    | ex x ρ2 =>
      cases hC
      refine fun cls d σ3 H4 a l h5 => q cls d σ3 H4 (ag2.trans a) l (h5.imp fun ts' h6 => ?_)
      have h7 : SR X.K Gf N H4 (cs ++ (ts' ++ (ts ++ σ3.zip ρ2))) := by
        refine h6.perm ?_
        simp only [← List.append_assoc]
        exact (List.perm_append_comm.append_right _).append_right _
      exact h7.dropL
  · refine .inl ⟨ws (show items.length ≤ i by omega), ?_⟩
    rw [List.drop_of_length_le (by omega)] at hC
    simp only [forL] at hC
    cases hC
    exact q σ' H' ag lr hS.dropL
theorem pxs_whl {c : Expr} {body : List Stmt} (hc : PXT X c (asT ea)) (hb : PXSs X io W body xb) (h : PS X st (tWhile (tIT X.K (asT ea)) (tX X.K io W xb))) : PXS X io W st (fun ρ => whlD (asT ea) xb ρ) := ps_imp h fun D σ H ⟨Gf, N, ts, ρ, hl, hs, fl, e, q⟩ => by
  obtain ⟨n, e⟩ := whlD_some e
  refine ⟨fun n σ' H' => ∃ ρi, Agree io σ σ' ∧ σ'.length = ρi.length ∧ SR X.K Gf N H' (ts ++ σ'.zip ρi) ∧ whlN (asT ea) xb n ρi = some fl, ⟨n, ρ, .refl, hl, hs, e⟩, ?_⟩
  rintro m σ' H' ⟨ρi, ag, lr, hS, hC⟩
  cases m with
  | zero => simp [whlN] at hC
  | succ m =>
    unfold whlN at hC
    obtain ⟨⟨k, ρ1⟩, e1, hC⟩ := bnd hC
    have l1 : ρ1.length = ρi.length := hc.ln _ _ e1
    refine ⟨Gf, N, ts, ρi, lr, hS, _, e1, fun H1 h1 => ?_⟩
    cases k with
    | false =>
      cases hC
      exact iteF (q σ' H1 ag (lr.trans l1.symm) h1)
    | true =>
      refine iteT ?_
      obtain ⟨f1, e2, hC⟩ := bnd hC
      refine ⟨fun σ2 H2 => ∃ ρi, Agree io σ σ2 ∧ σ2.length = ρi.length ∧ SR X.K Gf N H2 (ts ++ σ2.zip ρi) ∧ whlN (asT ea) xb m ρi = some fl, fun σ2 H2 h2 => ⟨m, by omega, h2⟩, Gf, N, ts, ρ1, lr.trans l1.symm, h1, f1, e2, ?_⟩
      cases f1 with
      | nx ρ2 => exact fun σ3 H4 a l h5 => ⟨ρ2, ag.trans a, l, h5, hC⟩
      | ct ρ2 => exact fun σ3 H4 a l h5 => ⟨ρ2, ag.trans a, l, h5, hC⟩
      | bk ρ2 => cases hC; exact fun σ3 H4 a l h5 => q σ3 H4 (ag.trans a) l h5
      | rt d ρ2 => cases hC; exact fun v σ3 H4 a l h5 => q v σ3 H4 (ag.trans a) l h5
      | ex x ρ2 => cases hC; exact fun cls d σ3 H4 a l h5 => q cls d σ3 H4 (ag.trans a) l h5
end
end FL

/-! X7: a slice stored; two items stored at once. -/
namespace FL
open PySem PySem.Spec PyProof.Rows L2 StX
section
variable {X : Cx}
/-- x[lo:hi] = v of another list -/
def gSlc (to tl th : TE) : TG := fun v σ H Q => to σ H fun o H1 => tl σ H1 fun l H2 => th σ H2 fun u H3 => ∃ a b xs ys i j, o = .ref a ∧ v = .ref b ∧ l = .int i ∧ u = .int j ∧ H3 a = some (.lst xs) ∧ H3 b = some (.lst ys) ∧ a ≠ b ∧ 0 ≤ i ∧ i ≤ j ∧ j ≤ xs.length ∧ xs.length + ys.length ≤ sizeLine ∧ Q σ (upd H3 a (.lst (xs.take i.toNat ++ ys ++ xs.drop j.toNat)))
theorem pg_slc {o lo hi : Expr} {to tl th : TE} {p2 pos : Pos} (ho : PE X o to) (hl : PE X lo tl) (hh : PE X hi th) : PG X (.Subscript o (.Slice (some lo) (some hi) none p2) pos) (gSlc to tl th) := by
  refine ⟨fun pins s σ H v u Q I r h => ?_⟩
  have ha : assign (.Subscript o (.Slice (some lo) (some hi) none p2) pos) X.env u = (do
      let ov ← holding [u] (eval o X.env)
      let iv ← holding [u, ov] (eval (.Slice (some lo) (some hi) none p2) X.env)
      standAt pos
      holding [u, ov, iv] (setItem ov iv u)
      release [iv, u, ov] []) := by rfl
  rw [ha]
  refine wpAny_bind (wpAny_holding (thn (ho.run pins s σ H _ I h) fun ov s1 ⟨x, H1, I1, r1, q1⟩ => ?_))
  refine wpAny_bind (wpAny_holding (wpAny_Slice ?_))
  rw [evalPart_some]
  refine thn (hl.run pins s1 σ H1 _ I1 q1) fun vl s2 ⟨l, H2, I2, r2, q2⟩ => ?_
  rw [evalPart_some]
  refine thn (hh.run pins s2 σ H2 _ I2 q2) fun vu s3 ⟨w, H3, I3, r3, q3⟩ => ?_
  rw [evalPart_none]
  refine wpAny_pure ?_
  have I4 : Inv X pins σ H3 { s3 with heap := s3.heap.push { cls := .type "slice", data := .fields #[vl, vu, .none] } } := I3.kept (t' := s3.toks) fun b ob q => Heap.get?_push_of_some _ q
  obtain ⟨a, b, xs, ys, i, j, rfl, rfl, rfl, rfl, hA, hB, hne, h0, h1, h2, hz, q⟩ := q3
  cases r1
  cases r
  refine wpAny_bind (wpAny_standAt (wpAny_bind (wpAny_holding (set_slice I4 hA hB hne (Heap.IsSliceOf.new ..) r2 r3 h0 h1 h2 hz fun s' I' => ?_))))
  exact wpAny_release ⟨σ, _, I', q⟩
end
section
variable {K : PySem.W.Frag} {Gf H : Hp} {N : List Addr} {rs : List Root}
theorem Reps.cut {G H : Hp} {vs : List V} {ds : List D} {F : List Addr} (r : Reps K G H vs ds F) (n : Nat) : ∃ A C, F = A ++ C ∧ Reps K G H (vs.take n) (ds.take n) A ∧ Reps K G H (vs.drop n) (ds.drop n) C := by
  have r' := r
  rw [← List.take_append_drop n ds] at r'
  obtain ⟨us, us', A, C, e1, e2, h1, h2⟩ := r'.split
  have l1 := h1.length
  have lr := r.length
  rw [List.length_take] at l1
  have e3 : vs.take n = us := by
    rw [e1]
    by_cases hn : n ≤ ds.length
    · rw [List.take_append_of_le_length (by omega), List.take_of_length_le (by omega)]
    · have l2 := h2.length
      rw [List.length_drop] at l2
      have : us' = [] := List.length_eq_zero_iff.mp (by omega)
      rw [this, List.append_nil, List.take_of_length_le (by omega)]
  have e4 : vs.drop n = us' := by
    have := List.take_append_drop n vs
    rw [e3] at this
    exact List.append_cancel_left (this.trans e1)
  rw [e3, e4]
  exact ⟨A, C, e2, h1, h2⟩
theorem SR.splice {a b : Addr} {ds es : List D} (h : SR K Gf N H (tmp (.ref a) (.lst .own ds) :: tmp (.ref b) (.lst .own es) :: rs)) :
    ∃ vs us, H a = some (.lst vs) ∧ H b = some (.lst us) ∧ a ≠ b ∧ vs.length = ds.length ∧ us.length = es.length ∧ ∀ i j, i ≤ j → SR K Gf N (upd H a (.lst (vs.take i ++ us ++ vs.drop j))) (tmp (.ref a) (.lst .own (ds.take i ++ es ++ ds.drop j)) :: rs) := by
  have hne : a ≠ b := by
    rintro rfl
    obtain ⟨n, F, nd, r, g⟩ := h
    cases r with
    | cons x r =>
      cases r with
      | cons y r =>
        cases x
        cases y
        simp at nd
  obtain ⟨b', us, e0, cb, lb⟩ := h.swap2.contV rfl
  cases e0
  obtain ⟨vs, e, l, f⟩ := SR.writeL (ms := [tmp (.ref b) (.lst .own es)]) h
  have eb : H b = some (.lst us) := cb.2 (by decide)
  refine ⟨vs, us, e, eb, hne, l, lb, fun i j hij => f _ _ fun G F1 Fm r m nd => ?_⟩
  have m1 := ms1 m
  cases m1 with
  | lstO e2 q =>
    rename_i us' Fy
    rw [eb] at e2
    cases e2
    obtain ⟨A, C, rfl, ra, rc⟩ := r.cut j
    obtain ⟨A1, A2, rfl, ra1, _⟩ := ra.cut i
    rw [List.take_take, List.take_take, Nat.min_eq_left hij] at ra1
    refine ⟨A1 ++ Fy ++ C, (ra1.append q).append rc, fun x hx => ?_, ?_⟩
    · simp only [List.mem_append, List.mem_cons] at hx ⊢
      rcases hx with (z | z) | z <;> simp [z]
    · simp only [List.nodup_append, List.mem_append, List.mem_cons, List.nodup_cons] at nd ⊢
      obtain ⟨⟨⟨n1, n2, d1⟩, n3, d2⟩, ⟨n4, n5⟩, d3⟩ := nd
      refine ⟨⟨n1, n5, fun x hx y hy => d3 x (.inl (.inl hx)) y (.inr hy)⟩, n3, fun x hx y hy => ?_⟩
      rcases hx with hx | hx
      · exact d2 x (.inl hx) y hy
      · exact fun z => d3 y (.inr hy) x (.inr hx) z.symm
end
section
variable {X : Cx} {io : List Nat} {W : WX} {st : Stmt} {ea eb ec : Env → Option (D × Env)}
theorem slcS_some {x a b d z : D} (h : slcS x a b d = some z) : ∃ xs i j ys, x = .lst .own xs ∧ a = .int i ∧ b = .int j ∧ d = .lst .own ys ∧ 0 ≤ i ∧ i ≤ j ∧ j ≤ xs.length ∧ xs.length + ys.length ≤ SZ ∧ z = .lst .own (xs.take i.toNat ++ ys ++ xs.drop j.toNat) := by
  unfold slcS at h
  split at h
  · split at h
    · rename_i c
      cases h
      exact ⟨_, _, _, _, rfl, rfl, rfl, rfl, c.1, c.2.1, c.2.2.1, c.2.2.2, rfl⟩
    · cases h
  · cases h
theorem pxs_setS {i : Nat} (la : Ln ea) (lb : Ln eb) (lc : Ln ec) (h : PS X st (tAsg (tI X.K ea) (gSlc (tVar i) (tI X.K eb) (tI X.K ec)))) :
    PXS X io W st (fun ρ => (ea ρ).bind fun p => (getS p.2 i).bind fun _ => (eb p.2).bind fun q => (ec q.2).bind fun r => (getS r.2 i).bind fun x => (slcS x q.1 r.1 p.1).map fun z => .nx (r.2.set i (some z))) := ps_imp h fun D σ H ⟨Gf, N, ts, ρ, hl, hs, fl, e, q⟩ => by
  obtain ⟨p, e1, e⟩ := bnd e
  obtain ⟨x0, e0, e⟩ := bnd e
  obtain ⟨pb, e2, e⟩ := bnd e
  obtain ⟨pc, e5, e⟩ := bnd e
  obtain ⟨x, e3, e⟩ := bnd e
  obtain ⟨z, e4, rfl⟩ := mpd e
  obtain ⟨xs, k, j, ys, rfl, ek, ej, ed, h0, h1', h2', hz, rfl⟩ := slcS_some e4
  have l1 := la _ _ e1
  have l2 := lb _ _ e2
  have l3 := lc _ _ e5
  refine ⟨Gf, N, ts, ρ, hl, hs, p, e1, fun v H1 h1 => ?_⟩
  obtain ⟨w, ew⟩ := SR.slotV (ts := tmp v p.1 :: ts) h1 (hl.trans l1.symm) e0
  refine ⟨w, ew, Gf, N, tmp v p.1 :: ts, p.2, hl.trans l1.symm, h1, pb, e2, fun y H2 h2 => ?_⟩
  refine ⟨Gf, N, tmp y pb.1 :: tmp v p.1 :: ts, pb.2, (hl.trans l1.symm).trans l2.symm, h2, pc, e5, fun y2 H3 h3 => ?_⟩
  have h4 := SR.take (ts := tmp y2 pc.1 :: tmp y pb.1 :: tmp v p.1 :: ts) h3 e3 ew
  rw [ek, ej, ed] at h4
  have h5 : SR X.K Gf N H3 (tmp w (.lst .own xs) :: tmp y2 (.int j) :: tmp y (.int k) :: tmp v (.lst .own ys) :: (ts ++ σ.zip (pc.2.set i none))) := h4
  have hy2 : y2 = .int j := SR.isInt h5.swap2
  have h6 := h5.dropMid
  have hy : y = .int k := SR.isInt h6.swap2
  have h7 := h6.dropMid
  obtain ⟨a, vs, ea', ca, la'⟩ := h7.contV rfl
  obtain ⟨b, us, eb', cb, lb'⟩ := h7.swap2.contV rfl
  subst ea' eb'
  obtain ⟨vs', us', ev', eu', hne, lv', lu', f⟩ := h7.splice
  refine ⟨a, b, vs', us', k, j, rfl, rfl, hy, hy2, ev', eu', hne, h0, h1', by rw [lv']; exact h2', by rw [lv', lu', sizeLine_eq]; exact hz, ?_⟩
  have h8 := f k.toNat j.toNat (by omega)
  have h9 := SR.put (ts := ts) (σ := σ) (i := i) h8 (by rw [len_set]; exact getS_lt e3) ew
  rw [List.set_set] at h9
  exact q σ _ .refl (by rw [len_set, l3, l2, l1]; exact hl) h9
/-- x[b] = d, as a part of a target -/
theorem g_set {i : Nat} (lb : Ln eb) {σ : L2.St} {H : Hp} {Q : L2.St → Hp → Prop} {Gf : Hp} {N : List Addr} {ts : List Root} {ρ ρ' : Env} {v : V} {d : D} (hl : σ.length = ρ.length) (h1 : SR X.K Gf N H (tmp v d :: (ts ++ σ.zip ρ)))
    (e : ((getS ρ i).bind fun _ => (eb ρ).bind fun q => (getS q.2 i).bind fun x => (setID x q.1 d).map fun z => q.2.set i (some z)) = some ρ')
    (k : ∀ H', σ.length = ρ'.length → SR X.K Gf N H' (ts ++ σ.zip ρ') → Q σ H') : gSub (tVar i) (tI X.K eb) rSetL v σ H Q := by
  obtain ⟨x0, e0, e⟩ := bnd e
  obtain ⟨pb, e2, e⟩ := bnd e
  obtain ⟨x, e3, e⟩ := bnd e
  obtain ⟨z, e4, rfl⟩ := mpd e
  obtain ⟨xs, kk, j, rfl, ek, ej, rfl⟩ := setID_some e4
  have l2 := lb _ _ e2
  obtain ⟨w, ew⟩ := SR.slotV (ts := tmp v d :: ts) h1 hl e0
  refine ⟨w, ew, Gf, N, tmp v d :: ts, ρ, hl, h1, pb, e2, fun y H2 h2 => ?_⟩
  have h3 := SR.take (ts := tmp y pb.1 :: tmp v d :: ts) h2 e3 ew
  rw [ek] at h3
  have h4 : SR X.K Gf N H2 (tmp w (.lst .own xs) :: tmp v d :: (ts ++ σ.zip (pb.2.set i none))) := h3.dropMid
  have hy : y = .int kk := SR.isInt (v := y) h3.swap2
  obtain ⟨a, vs, ea', ca, la'⟩ := h4.contV rfl
  subst ea'
  obtain ⟨vs', ev', lv', f⟩ := h4.setAt
  refine ⟨a, vs', kk, j, rfl, hy, ev', by rw [lv']; exact ej, ?_⟩
  have h5 := f j (ixN_lt ej)
  have h6 := SR.put (ts := ts) (σ := σ) (i := i) h5 (by rw [len_set]; exact getS_lt e3) ew
  rw [List.set_set] at h6
  exact k _ (by rw [len_set, l2]; exact hl) h6
theorem pxs_swp {i j : Nat} (la : Ln ea) (lb : Ln eb) (lc : Ln ec) (h : PS X st (tAsg (tI X.K ea) (gTup X.K 2 (gCons (gSub (tVar i) (tI X.K eb) rSetL) (gCons (gSub (tVar j) (tI X.K ec) rSetL) gNil))))) :
    PXS X io W st (fun ρ => (ea ρ).bind fun p => (g2 eb ec i j p.1 p.2).map .nx) := ps_imp h fun D σ H ⟨Gf, N, ts, ρ, hl, hs, fl, e, q⟩ => by
  obtain ⟨p, e1, e⟩ := bnd e
  obtain ⟨ρ2, e2, rfl⟩ := mpd e
  have l1 := la _ _ e1
  refine ⟨Gf, N, ts, ρ, hl, hs, p, e1, fun v H1 h1 => ?_⟩
  obtain ⟨d, ρ0⟩ := p
  unfold g2 at e2
  simp only at e2 h1 l1
  split at e2
  · rename_i d1 d2
    obtain ⟨ρ1, e3, e4⟩ := bnd e2
    obtain ⟨a, vs, rfl, sq, lv, h2⟩ := h1.untup
    obtain ⟨v1, v2, rfl⟩ : ∃ v1 v2, vs = [v1, v2] := by
      match vs, lv with
      | [v1, v2], _ => exact ⟨v1, v2, rfl⟩
    refine ⟨a, [v1, v2], rfl, sq, rfl, v1, [v2], rfl, ?_⟩
    have h3 : SR X.K Gf N H1 (tmp v1 d1 :: (tmp v2 d2 :: ts ++ σ.zip ρ0)) := h2
    refine g_set lb (hl.trans l1.symm) h3 e3 fun H2 l2 h4 => ?_
    refine ⟨v2, [], rfl, ?_⟩
    have h5 : SR X.K Gf N H2 (tmp v2 d2 :: (ts ++ σ.zip ρ1)) := h4
    refine g_set lc l2 h5 e4 fun H3 l3 h6 => ?_
    exact ⟨rfl, q σ _ .refl l3 h6⟩
  · cases e2
end
end FL

/-! P1: a place within a container: taken out (a hole stays), changed, put back. -/
namespace FL
open PySem PySem.Spec PyProof.Rows L2
section
variable {K : PySem.W.Frag} {G H Gf : Hp} {N : List Addr} {rs : List Root} {v : V} {d : D}
theorem perm_mid {α : Type} (P B R : List α) : (P ++ (B ++ R)).Perm (B ++ (P ++ R)) := by
  rw [← List.append_assoc, ← List.append_assoc]; exact List.perm_append_comm.append_right _
theorem mem_more {α : Type} {A B N : List α} (h : ∀ a, a ∈ A ↔ a ∈ B) (a : α) : a ∈ B ++ N ↔ a ∈ A ++ N := by rw [List.mem_append, List.mem_append, h a]
theorem Reps.outJ : ∀ {vs : List V} {ds : List D} {F : List Addr} {j : Nat} {x : D}, Reps K G H vs ds F → ds[j]? = some x → ∃ u A B C, vs[j]? = some u ∧ F = A ++ (B ++ C) ∧ Rep K G H u x B ∧ Reps K G H vs (ds.set j (.hole u)) (A ++ C)
  | _, _, _, _, _, .nil, h => by simp at h
  | _, _, _, 0, x, .cons (v := v) (F1 := F1) (F2 := F2) r t, h => by
    simp at h; subst h
    exact ⟨v, [], F1, F2, rfl, rfl, r, Reps.cons (F1 := []) (.hole v) t⟩
  | _, _, _, j + 1, x, .cons (F1 := F1) r t, h => by
    obtain ⟨u, A, B, C, e, rfl, q, q2⟩ := Reps.outJ (j := j) t (by simpa using h)
    refine ⟨u, F1 ++ A, B, C, by simpa using e, by simp [List.append_assoc], q, ?_⟩
    simp only [List.set_cons_succ]
    rw [List.append_assoc]
    exact .cons r q2
theorem Reps.backJ : ∀ {vs : List V} {ds : List D} {F Fx : List Addr} {j : Nat} {u : V} {x : D}, Reps K G H vs ds F → ds[j]? = some (.hole u) → Rep K G H u x Fx → ∃ A C, F = A ++ C ∧ Reps K G H vs (ds.set j x) (A ++ (Fx ++ C))
  | _, _, _, _, _, _, _, .nil, h, _ => by simp at h
  | _, _, _, Fx, 0, u, x, .cons (F1 := F1) (F2 := F2) r t, h, q => by
    simp at h; subst h
    cases r
    exact ⟨[], F2, rfl, Reps.cons (F1 := Fx) q t⟩
  | _, _, _, Fx, j + 1, u, x, .cons (F1 := F1) r t, h, q => by
    obtain ⟨A, C, rfl, q2⟩ := Reps.backJ (j := j) t (by simpa using h) q
    refine ⟨F1 ++ A, C, by simp [List.append_assoc], ?_⟩
    simp only [List.set_cons_succ]
    rw [List.append_assoc]
    exact .cons r q2
theorem ownC_cont (h : ownC d = true) : isCont d = true := by
  cases d <;> simp_all [ownC, isCont]
theorem Rep.contO {F : List Addr} (h : Rep K G H v d F) (hc : ownC d = true) : ∃ vs F0 F1, F = F0 ++ F1 ∧ Reps K G H vs (itemsD d) F1 ∧ ∀ ds' F', Reps K G H vs ds' F' → Rep K G H v (setSeq d ds') (F0 ++ F') := by
  cases h with
  | tup s r => exact ⟨_, [], _, rfl, r, fun ds' F' r' => .tup s r'⟩
  | lstO s r => exact ⟨_, [_], _, rfl, r, fun ds' F' r' => .lstO s r'⟩
  | _ => cases hc
theorem SR.out (h : SR K Gf N H (tmp v d :: rs)) (hc : ownC d = true) : ∃ a vs, v = .ref a ∧ Cont K H a vs d ∧ vs.length = (itemsD d).length ∧
    ∀ j x, (itemsD d)[j]? = some x → ∃ u, vs[j]? = some u ∧ SR K Gf N H (tmp u x :: tmp v (setSeq d ((itemsD d).set j (.hole u))) :: rs) := by
  obtain ⟨n, F, nd, r, g⟩ := h
  cases r with
  | cons y r =>
    rename_i Fy F2
    obtain ⟨a, vs, F0, F1, e, eF, c, q, _, mk⟩ := y.cont hid_le (ownC_cont hc)
    refine ⟨a, vs, e, c, q.length, fun j x hj => ?_⟩
    obtain ⟨u, A, B, C, eu, e1, sh, q2⟩ := q.outJ hj
    subst e1 eF
    have pm : (F0 ++ (A ++ (B ++ C)) ++ F2).Perm (B ++ ((F0 ++ (A ++ C)) ++ F2)) := by
      have p1 : (F0 ++ (A ++ (B ++ C)) ++ F2) = (F0 ++ A) ++ (B ++ (C ++ F2)) := by simp [List.append_assoc]
      have p2 : (B ++ ((F0 ++ (A ++ C)) ++ F2)) = B ++ ((F0 ++ A) ++ (C ++ F2)) := by simp [List.append_assoc]
      rw [p1, p2]
      exact perm_mid _ _ _
    have me : ∀ a, a ∈ F0 ++ (A ++ (B ++ C)) ++ F2 ↔ a ∈ B ++ ((F0 ++ (A ++ C)) ++ F2) := fun a => pm.mem_iff
    refine ⟨u, eu, n, B ++ ((F0 ++ (A ++ C)) ++ F2), pm.nodup_iff.mp nd, ?_, ?_⟩
    · rw [hid_congr (F' := F0 ++ (A ++ (B ++ C)) ++ F2 ++ N) (mem_more me)]
      refine .cons sh (.cons (mk _ _ _ Le.refl q2 fun z => ?_) r)
      have := congrArg List.length z
      simp at this
      apply List.length_eq_zero_iff.mp
      simp [this]
    · rw [hid_congr (F' := F0 ++ (A ++ (B ++ C)) ++ F2) fun a => (me a).symm]; exact g
theorem SR.back {u : V} {x : D} {j : Nat} (h : SR K Gf N H (tmp u x :: tmp v d :: rs)) (hc : ownC d = true) (hj : (itemsD d)[j]? = some (.hole u)) : SR K Gf N H (tmp v (setSeq d ((itemsD d).set j x)) :: rs) := by
  obtain ⟨n, F, nd, r, g⟩ := h
  cases r with
  | cons y r =>
    rename_i Fx F3
    cases r with
    | cons z r =>
      rename_i Fz F2
      obtain ⟨vs, F0, F1, eF, q, mk⟩ := z.contO hc
      obtain ⟨A, C, e1, q2⟩ := q.backJ hj y
      subst e1 eF
      have pm : (Fx ++ (F0 ++ (A ++ C) ++ F2)).Perm ((F0 ++ (A ++ (Fx ++ C))) ++ F2) := by
        have p1 : (Fx ++ (F0 ++ (A ++ C) ++ F2)) = Fx ++ ((F0 ++ A) ++ (C ++ F2)) := by simp [List.append_assoc]
        have p2 : ((F0 ++ (A ++ (Fx ++ C))) ++ F2) = (F0 ++ A) ++ (Fx ++ (C ++ F2)) := by simp [List.append_assoc]
        rw [p1, p2]
        exact (perm_mid _ _ _).symm
      have me : ∀ a, a ∈ Fx ++ (F0 ++ (A ++ C) ++ F2) ↔ a ∈ (F0 ++ (A ++ (Fx ++ C))) ++ F2 := fun a => pm.mem_iff
      refine ⟨n, (F0 ++ (A ++ (Fx ++ C))) ++ F2, pm.nodup_iff.mp nd, ?_, ?_⟩
      · rw [hid_congr (F' := Fx ++ (F0 ++ (A ++ C) ++ F2) ++ N) (mem_more me)]
        exact .cons (mk _ _ q2) r
      · rw [hid_congr (F' := Fx ++ (F0 ++ (A ++ C) ++ F2)) fun a => (me a).symm]; exact g
end
/-! ### places -/
theorem setSeq_own {d : D} {ds : List D} (h : ownC d = true) : ownC (setSeq d ds) = true := by
  cases d with
  | lst o xs => cases o <;> first | rfl | cases h
  | tup xs => rfl
  | _ => cases h
theorem items_setSeq {d : D} {ds : List D} (h : ownC d = true) : itemsD (setSeq d ds) = ds := by
  cases d <;> simp_all [ownC, setSeq, itemsD]
theorem setSeq_setSeq {d : D} {ds ds' : List D} : setSeq (setSeq d ds) ds' = setSeq d ds' := by
  cases d <;> simp [setSeq]
theorem get1_some {d y : D} {n : Int} (h : get1 d n = some y) : ∃ j, ownC d = true ∧ ixN (itemsD d).length n = some j ∧ (itemsD d)[j]? = some y := by
  unfold get1 at h
  split at h
  · obtain ⟨j, e1, e2⟩ := Option.bind_eq_some_iff.mp h
    exact ⟨j, by assumption, e1, e2⟩
  · cases h
theorem put1_some {d y z : D} {n : Int} (h : put1 d n y = some z) : ∃ j, ownC d = true ∧ ixN (itemsD d).length n = some j ∧ z = setSeq d ((itemsD d).set j y) := by
  unfold put1 at h
  split at h
  · obtain ⟨j, e1, e2⟩ := Option.map_eq_some_iff.mp h
    exact ⟨j, by assumption, e1, e2.symm⟩
  · cases h
section
variable {X : Cx}
/-- what is taken out can be put back -/
def Backs (K : PySem.W.Frag) (ρ : Env) (p : Pl) (v u : V) (zs : List Root) : Prop := ∀ Gf N H rs y x, putP ρ p y = some x → SR K Gf N H (tmp u y :: (zs ++ rs)) → SR K Gf N H (tmp v x :: rs)
def tPl (K : PySem.W.Frag) (p : Pl) : TE := fun σ H Q => ∃ Gf N ts ρ, σ.length = ρ.length ∧ SR K Gf N H (ts ++ σ.zip ρ) ∧ ∃ y, getP ρ p = some y ∧
  ∀ v u zs, σ[p.base]? = some (some v) → SR K Gf N H (tmp u y :: (zs ++ (ts ++ σ.zip (ρ.set p.base none)))) → Backs K ρ p v u zs → Q u H
def tIx (K : PySem.W.Frag) (ix : Ix) : TE := fun σ H Q => ∃ Gf N ts ρ, σ.length = ρ.length ∧ SR K Gf N H (ts ++ σ.zip ρ) ∧ ∃ n, ixD ρ ix = some n ∧ Q (.int n) H
theorem intS_some {ρ : Env} {i : Nat} {n : Int} (h : intS ρ i = some n) : getS ρ i = some (.int n) := by
  unfold intS at h
  split at h
  · cases h; assumption
  · cases h
theorem SR.slotI {K : PySem.W.Frag} {Gf H : Hp} {N : List Addr} {ts : List Root} {σ : L2.St} {ρ : Env} {i : Nat} {n : Int} (hs : SR K Gf N H (ts ++ σ.zip ρ)) (hl : σ.length = ρ.length) (e : intS ρ i = some n) : σ[i]? = some (some (.int n)) := by
  have e' := intS_some e
  obtain ⟨v, ev⟩ := hs.slotV hl e'
  have := (hs.take e' ev).isInt
  rw [ev, this]
theorem pe_nm {i : Nat} {e : Expr} (h : PE X e (tVar i)) : PE X e (tPl X.K (.nm i)) := pe_imp h fun σ H Q ⟨Gf, N, ts, ρ, hl, hs, y, e, q⟩ => by
  obtain ⟨v, ev⟩ := hs.slotV hl e
  refine ⟨v, ev, q v v [] ev (hs.take e ev) fun Gf N H rs y x e h => ?_⟩
  cases e
  exact h
theorem pe_subP {p : Pl} {ix : Ix} {a b : Expr} {pos : Pos} (ha : PE X a (tPl X.K p)) (hb : PE X b (tIx X.K ix)) (hs : PlainIx b) : PE X (.Subscript a b pos) (tPl X.K (.sub p ix)) := pe_imp (pe_ix ixr_X ha hb hs) fun σ H Q ⟨Gf, N, ts, ρ, hl, hs, y, e, q⟩ => by
  obtain ⟨x, e1, e⟩ := bnd e
  obtain ⟨n, e2, e3⟩ := bnd e
  obtain ⟨j, ho, ej, ey⟩ := get1_some e3
  refine ⟨Gf, N, ts, ρ, hl, hs, x, e1, fun v u zs ev h1 bk => ?_⟩
  refine ⟨Gf, N, ts, ρ, hl, hs, n, e2, ?_⟩
  obtain ⟨a', vs, eu, c, l, f⟩ := h1.out ho
  subst eu
  obtain ⟨u', eu', h2⟩ := f j y ey
  have fin : Q u' H := q v u' (tmp (.ref a') (setSeq x ((itemsD x).set j (.hole u'))) :: zs) ev h2 fun Gf N H rs y' z ez hz => by
    obtain ⟨x0, f1, ez⟩ := bnd ez
    rw [e1] at f1; cases f1
    obtain ⟨n0, f2, ez⟩ := bnd ez
    rw [e2] at f2; cases f2
    obtain ⟨x1, f3, ez⟩ := bnd ez
    obtain ⟨j0, _, ej0, rfl⟩ := put1_some f3
    rw [ej] at ej0; cases ej0
    refine bk Gf N H rs _ z ez ?_
    have hj : j < (itemsD x).length := (List.getElem?_eq_some_iff.mp ey).1
    have h3 := SR.back (j := j) hz (setSeq_own ho) (by rw [items_setSeq ho]; simp [hj])
    rw [items_setSeq ho, setSeq_setSeq, List.set_set] at h3
    exact h3
  cases x with
  | tup ds => exact .inr ⟨a', vs, n, u', rfl, rfl, c, atI_mk l ej eu', fin⟩
  | lst o ds => exact .inl ⟨a', vs, n, u', rfl, rfl, c.1, atI_mk l ej eu', fin⟩
  | _ => simp [ownC] at ho
end
end FL

/-! P2: statements that change a place. -/
namespace FL
open PySem PySem.Spec PyProof.Rows L2
section
variable {K : PySem.W.Frag} {G H Gf : Hp} {N : List Addr} {rs : List Root} {v : V} {d : D}
theorem Reps.rev : ∀ {vs : List V} {ds : List D} {F : List Addr}, Reps K G H vs ds F → ∃ F', Reps K G H vs.reverse ds.reverse F' ∧ F'.Perm F
  | _, _, _, .nil => ⟨[], .nil, .refl _⟩
  | _, _, _, .cons (v := v) (d := d) (F1 := F1) (F2 := F2) r t => by
    obtain ⟨F', q, p⟩ := Reps.rev t
    refine ⟨F' ++ (F1 ++ []), ?_, ?_⟩
    · simp only [List.reverse_cons]
      exact q.append (.cons r .nil)
    · rw [List.append_nil]
      exact (List.perm_append_comm).trans (p.append_left _)
theorem lstO_some {x : D} {ds : List D} (h : lstO x = some ds) : x = .lst .own ds := by
  unfold lstO at h
  split at h
  · cases h; rfl
  · cases h
def rM : MOp → V → List V → Hp → VK → Prop
  | .app => rAppend
  | .clr => rClear
  | .rev => rReverse
  | .pop => rPop
  | .popI => rPopAt
  | .ext => rExtend
  | .ins => fun x vs H Q => ∃ (l : Addr) (xs : List V) (i : Int) (y : V), x = .ref l ∧ vs = [.int i, y] ∧ H l = some (.lst xs) ∧ xs.length < sizeLine ∧ 0 ≤ i ∧ i < 2 ^ 63 ∧ Q .non (upd H l (.lst (xs.take i.toNat ++ [y] ++ xs.drop i.toNat)))
def mopOk : MOp → Bool
  | .app => true
  | .clr => true
  | .rev => true
  | .pop => true
  | .popI => true
  | .ext => true
  | .ins => true
theorem Reps.erase : ∀ {vs : List V} {ds : List D} {F : List Addr} (j : Nat), Reps K G H vs ds F → ∃ F', Reps K G H (vs.eraseIdx j) (ds.eraseIdx j) F' ∧ F'.Sublist F
  | _, _, _, j, .nil => ⟨[], by simpa using Reps.nil, .slnil⟩
  | _, _, _, 0, .cons (F1 := F1) (F2 := F2) r t => ⟨F2, t, List.sublist_append_right _ _⟩
  | _, _, _, j + 1, .cons (F1 := F1) (F2 := F2) r t => by
    obtain ⟨F', q, s⟩ := Reps.erase j t
    exact ⟨F1 ++ F', .cons r q, (List.Sublist.refl _).append s⟩
theorem Reps.takeD : ∀ {vs : List V} {ds : List D} {F : List Addr} (j : Nat), Reps K G H vs ds F → ∃ A B, F = A ++ B ∧ Reps K G H (vs.take j) (ds.take j) A ∧ Reps K G H (vs.drop j) (ds.drop j) B
  | _, _, _, j, .nil => ⟨[], [], rfl, by simpa using Reps.nil, by simpa using Reps.nil⟩
  | _, _, F, 0, r => ⟨[], F, rfl, .nil, r⟩
  | _, _, _, j + 1, .cons (F1 := F1) (F2 := F2) r t => by
    obtain ⟨A, B, rfl, q1, q2⟩ := Reps.takeD j t
    exact ⟨F1 ++ A, B, by rw [List.append_assoc], .cons r q1, q2⟩
theorem snd_M {op : MOp} {a : Addr} {ds ds' args : List D} {ws : List V} {Q : VK} (ho : mopOk op = true) (h : SR K Gf N H (tmp (.ref a) (.lst .own ds) :: (tmps ws args ++ rs))) (hl : ws.length = args.length) (e : mopD op ds args = some ds')
    (q : ∀ v H', SR K Gf N H' (tmp (.ref a) (.lst .own ds') :: rs) → Q v H') : rM op (.ref a) ws H Q := by
  cases op with
  | app =>
    match args, ws, hl, e, h with
    | [x], [w], _, e, h =>
      simp only [mopD] at e
      split at e
      · cases e
        rename_i hz
        obtain ⟨vs', ev', lv', h4⟩ := SR.push (v := w) (d := x) (rs := rs) h
        exact ⟨a, vs', w, rfl, rfl, ev', by rw [lv', sizeLine_eq]; exact hz, q _ _ h4⟩
      · cases e
    | [], _, _, e, _ => simp [mopD] at e
    | _ :: _ :: _, _, _, e, _ => simp [mopD] at e
  | clr =>
    match args, ws, hl, e, h with
    | [], [], _, e, h =>
      simp only [mopD] at e
      cases e
      obtain ⟨vs', ev', lv', f⟩ := SR.writeL (ms := []) h
      exact ⟨a, vs', rfl, rfl, ev', q _ _ (f [] [] fun G F1 Fm r m nd => ⟨[], .nil, by simp, by simp⟩)⟩
    | _ :: _, _, _, e, _ => simp [mopD] at e
  | rev =>
    match args, ws, hl, e, h with
    | [], [], _, e, h =>
      simp only [mopD] at e
      cases e
      obtain ⟨vs', ev', lv', f⟩ := SR.writeL (ms := []) h
      refine ⟨a, vs', rfl, rfl, ev', q _ _ (f _ _ fun G F1 Fm r m nd => ?_)⟩
      obtain ⟨F', r', p⟩ := r.rev
      exact ⟨F', r', fun b hb => List.mem_append_left _ (p.mem_iff.mp hb), p.nodup_iff.mpr (List.nodup_append.mp nd).1⟩
    | _ :: _, _, _, e, _ => simp [mopD] at e
  | pop =>
    match args, ws, hl, e, h with
    | [], [], _, e, h =>
      simp only [mopD] at e
      split at e
      · cases e
      · rename_i hne
        cases e
        obtain ⟨vs', ev', lv', f⟩ := SR.writeL (ms := []) h
        have hd : ds ≠ [] := by intro z; subst z; simp at hne
        have hlen : 0 < ds.length := List.length_pos_iff.mpr hd
        have hv : vs'[vs'.length - 1]? = some (vs'[vs'.length - 1]'(by omega)) := List.getElem?_eq_getElem (by omega)
        refine ⟨a, vs', _, rfl, rfl, ev', hv, q _ _ (f _ _ fun G F1 Fm r m nd => ?_)⟩
        have e1 : ds = ds.dropLast ++ [ds.getLast hd] := (List.dropLast_concat_getLast hd).symm
        rw [e1] at r
        obtain ⟨us, us', A, B, eu, eF, r1, r2⟩ := Reps.split r
        have e2 : us = vs'.dropLast := by
          have := Reps.length r2
          match us', this with
          | [u], _ => rw [eu]; simp
        rw [e2] at r1
        subst eF
        exact ⟨A, r1, fun b hb => by simp [hb], (List.nodup_append.mp (List.nodup_append.mp nd).1).1⟩
    | _ :: _, _, _, e, _ => simp [mopD] at e
  | popI =>
    match args, ws, hl, e, h with
    | [.int i], [w], _, e, h =>
      simp only [mopD] at e
      split at e
      · rename_i hb
        obtain ⟨j, ej, rfl⟩ := mpd e
        have hw : w = .int i := SR.isInt (v := w) (rs := tmp (.ref a) (.lst .own ds) :: rs) (SR.swap2 h)
        have h' : SR K Gf N H (tmp (.ref a) (.lst .own ds) :: rs) := SR.dropMid h
        obtain ⟨vs', ev', lv', f⟩ := SR.writeL (ms := []) h'
        have hj := ixN_lt ej
        refine ⟨a, vs', i, j, vs'[j]'(by omega), rfl, by rw [hw], ev', by omega, by omega, (ixN_seq (by rw [lv']; exact ej)).1, List.getElem?_eq_getElem _, q _ _ (f _ _ fun G F1 Fm r m nd => ?_)⟩
        obtain ⟨F', r', s⟩ := r.erase j
        exact ⟨F', r', fun b hb => List.mem_append_left _ (s.subset hb), s.nodup (List.nodup_append.mp nd).1⟩
      · cases e
    | [], _, _, e, _ => simp [mopD] at e
    | [.non], _, _, e, _ => simp [mopD] at e
    | [.bl _], _, _, e, _ => simp [mopD] at e
    | [.str _], _, _, e, _ => simp [mopD] at e
    | [.tup _], _, _, e, _ => simp [mopD] at e
    | [.lst _ _], _, _, e, _ => simp [mopD] at e
    | [.obj _ _ _ _], _, _, e, _ => simp [mopD] at e
    | [.hole _], _, _, e, _ => simp [mopD] at e
    | [.dic], _, _, e, _ => simp [mopD] at e
    | [.any], _, _, e, _ => simp [mopD] at e
    | _ :: _ :: _, _, _, e, _ => simp [mopD] at e
  | ext =>
    match args, ws, hl, e, h with
    | [.lst f xs], [w], _, e, h =>
      simp only [mopD] at e
      split at e
      · rename_i hb
        cases e
        have h1 : SR K Gf N H (tmp w (.lst f xs) :: tmp (.ref a) (.lst .own ds) :: rs) := SR.swap2 h
        obtain ⟨b, zs, ew, cz, lz, h2⟩ := SR.items1 h1 rfl
        subst ew
        have lz : zs.length = xs.length := lz
        obtain ⟨vs', ev', lv', f⟩ := SR.writeL (ms := tmps zs (shares xs)) (rs := rs) (SR.toFront h2)
        refine ⟨a, b, vs', zs, rfl, rfl, ev', cz.2 hb.1, by rw [lv', lz, sizeLine_eq]; exact hb.2, q _ _ (f _ _ fun G F1 Fm r m nd => ?_)⟩
        exact ⟨F1 ++ Fm, r.append (tmps_reps (by rw [lz, shares_len]) m), fun b hb => hb, nd⟩
      · cases e
    | [], _, _, e, _ => simp [mopD] at e
    | [.non], _, _, e, _ => simp [mopD] at e
    | [.bl _], _, _, e, _ => simp [mopD] at e
    | [.str _], _, _, e, _ => simp [mopD] at e
    | [.tup _], _, _, e, _ => simp [mopD] at e
    | [.int _], _, _, e, _ => simp [mopD] at e
    | [.obj _ _ _ _], _, _, e, _ => simp [mopD] at e
    | [.hole _], _, _, e, _ => simp [mopD] at e
    | [.dic], _, _, e, _ => simp [mopD] at e
    | [.any], _, _, e, _ => simp [mopD] at e
    | _ :: _ :: _, _, _, e, _ => simp [mopD] at e
  | ins =>
    match args, ws, hl, e, h with
    | [.int i, y], [w, u], _, e, h =>
      simp only [mopD] at e
      split at e
      · rename_i hb
        cases e
        have h0 : SR K Gf N H (tmp w (.int i) :: tmp (.ref a) (.lst .own ds) :: tmp u y :: rs) := SR.swap2 h
        have hw : w = .int i := SR.isInt h0
        obtain ⟨vs', ev', lv', f⟩ := SR.writeL (ms := [tmp u y]) (rs := rs) h0.drop
        refine ⟨a, vs', i, u, rfl, by rw [hw], ev', by rw [lv', sizeLine_eq]; exact hb.2.2, hb.1, by omega, q _ _ (f _ _ fun G F1 Fm r m nd => ?_)⟩
        obtain ⟨A, B, rfl, r1, r2⟩ := r.takeD i.toNat
        have ry : Rep K G H u y Fm := ms1 m
        refine ⟨(A ++ Fm) ++ B, (r1.append (by simpa using Reps.cons ry .nil)).append r2, fun b hb => ?_, ?_⟩
        · simp only [List.mem_append] at hb ⊢
          rcases hb with (h | h) | h
          · exact .inl (.inl h)
          · exact .inr h
          · exact .inl (.inr h)
        · refine List.Perm.nodup ?_ nd
          rw [List.append_assoc, List.append_assoc]
          exact (List.perm_append_comm).append_left _
      · cases e
    | [], _, _, e, _ => simp [mopD] at e
    | [_], _, _, e, _ => simp [mopD] at e
    | [.non, _], _, _, e, _ => simp [mopD] at e
    | [.bl _, _], _, _, e, _ => simp [mopD] at e
    | [.str _, _], _, _, e, _ => simp [mopD] at e
    | [.tup _, _], _, _, e, _ => simp [mopD] at e
    | [.lst _ _, _], _, _, e, _ => simp [mopD] at e
    | [.obj _ _ _ _, _], _, _, e, _ => simp [mopD] at e
    | [.hole _, _], _, _, e, _ => simp [mopD] at e
    | [.dic, _], _, _, e, _ => simp [mopD] at e
    | [.any, _], _, _, e, _ => simp [mopD] at e
    | _ :: _ :: _ :: _, _, _, e, _ => simp [mopD] at e
end
section
variable {X : Cx} {io : List Nat} {W : WX} {st : Stmt} {er : Env → Option (List D × Env)} {ea : Env → Option (D × Env)}
noncomputable def mutE (p : Pl) (op : MOp) (er : Env → Option (List D × Env)) : Env → Option Flow := fun ρ => (getP ρ p).bind fun x => (lstO x).bind fun ds => (er (ρ.set p.base none)).bind fun q => (mopD op ds q.1).bind fun ds' => (putP ρ p (.lst .own ds')).map fun z => .nx (q.2.set p.base (some z))
theorem getP_base {ρ : Env} : ∀ {p : Pl} {x : D}, getP ρ p = some x → ∃ d, getS ρ p.base = some d
  | .nm i, x, h => ⟨x, h⟩
  | .sub p ix, x, h => by
    obtain ⟨y, e, _⟩ := bnd h
    exact getP_base (p := p) e
theorem mut_core {p : Pl} {op : MOp} (ho : mopOk op = true) (lr : Ln er) {D : Ends} {σ : L2.St} {H : Hp} (h : tX X.K io W (mutE p op er) D σ H) :
    tPl X.K p σ H fun x H1 => tyV X.K "list" x H1 ∧ tIA X.K er σ H1 fun xs H2 => rM op x xs H2 fun _ H3 => D.nx σ H3 := by
  obtain ⟨Gf, N, ts, ρ, hl, hs, fl, e, q⟩ := h
  obtain ⟨y, e1, e⟩ := bnd e
  obtain ⟨ds, e2, e⟩ := bnd e
  obtain ⟨⟨args, ρ2⟩, e3, e⟩ := bnd e
  obtain ⟨ds', e4, e⟩ := bnd e
  obtain ⟨z, e5, rfl⟩ := mpd e
  have ey := lstO_some e2
  subst ey
  have l2 : ρ2.length = ρ.length := (lr _ _ e3).trans len_set
  obtain ⟨d0, e0⟩ := getP_base e1
  refine ⟨Gf, N, ts, ρ, hl, hs, _, e1, fun v u zs ev h1 bk => ?_⟩
  obtain ⟨a, vs, ea', ca, la'⟩ := h1.contV rfl
  subst ea'
  refine ⟨.inl ⟨rfl, vs, ca.1⟩, Gf, N, tmp (.ref a) (.lst .own ds) :: (zs ++ ts), ρ.set p.base none, by rw [len_set]; exact hl, by simpa [List.append_assoc] using h1, _, e3, fun ws H2 hw h2 => ?_⟩
  have h3 : SR X.K Gf N H2 (tmp (.ref a) (.lst .own ds) :: (tmps ws args ++ (zs ++ (ts ++ σ.zip ρ2)))) := by
    have := SR.toFront (rs' := tmps ws args) (rs := (zs ++ ts) ++ σ.zip ρ2) (r := tmp (.ref a) (.lst .own ds)) (by simpa [List.append_assoc] using h2)
    simpa [List.append_assoc] using this
  refine snd_M ho h3 hw e4 fun w H3 h4 => ?_
  have h5 := bk Gf N H3 (ts ++ σ.zip ρ2) _ z e5 h4
  have h6 := SR.put (ts := ts) (σ := σ) (i := p.base) h5 (by rw [l2]; exact getS_lt e0) ev
  exact q σ _ .refl (by rw [len_set]; show σ.length = ρ2.length; rw [l2]; exact hl) h6
theorem pxs_mutP {p : Pl} {op : MOp} (ho : mopOk op = true) (lr : Ln er) (h : PS X st (tDrop (tBM X.K "list" (rM op) (tPl X.K p) (tIA X.K er)))) : PXS X io W st (mutE p op er) :=
  ps_imp h fun D σ H q => mut_core ho lr q
theorem pxs_mutP0 {p : Pl} {op : MOp} (ho : mopOk op = true) (h : PS X st (tDrop (tBM0 X.K "list" (rM op) (tPl X.K p)))) : PXS X io W st (mutE p op fun ρ => some ([], ρ)) :=
  ps_imp h fun D σ H q => by
    have := mut_core ho (fun ρ p e => by cases e; rfl) q
    obtain ⟨Gf, N, ts, ρ, hl, hs, y, e, f⟩ := this
    refine ⟨Gf, N, ts, ρ, hl, hs, y, e, fun v u zs ev h1 bk => ?_⟩
    obtain ⟨t, Gf', N', ts', ρ', hl', hs', p', e', f'⟩ := f v u zs ev h1 bk
    cases e'
    exact ⟨t, f' [] _ rfl hs'⟩
def setPE (p : Pl) (ix : Ix) (ea : Env → Option (D × Env)) : Env → Option Flow := fun ρ => (ea ρ).bind fun q => (getP q.2 p).bind fun x => (ixD q.2 ix).bind fun n => (setID x (.int n) q.1).bind fun x' => (putP q.2 p x').map fun z => .nx (q.2.set p.base (some z))
theorem pxs_setP {p : Pl} {ix : Ix} (la : Ln ea) (h : PS X st (tAsg (tI X.K ea) (gSub (tPl X.K p) (tIx X.K ix) rSetL))) : PXS X io W st (setPE p ix ea) := ps_imp h fun D σ H ⟨Gf, N, ts, ρ, hl, hs, fl, e, q⟩ => by
  obtain ⟨⟨d, ρ1⟩, e1, e⟩ := bnd e
  obtain ⟨x, e2, e⟩ := bnd e
  obtain ⟨n, e3, e⟩ := bnd e
  obtain ⟨x', e4, e⟩ := bnd e
  obtain ⟨z, e5, rfl⟩ := mpd e
  obtain ⟨xs, k, j, rfl, ek, ej, rfl⟩ := setID_some e4
  cases ek
  have l1 := la _ _ e1
  simp only at l1 e2 e3 e5
  obtain ⟨d0, e0⟩ := getP_base e2
  refine ⟨Gf, N, ts, ρ, hl, hs, _, e1, fun w H1 h1 => ?_⟩
  simp only at h1
  refine ⟨Gf, N, tmp w d :: ts, ρ1, hl.trans l1.symm, h1, _, e2, fun v u zs ev h2 bk => ?_⟩
  refine ⟨Gf, N, tmp w d :: ts, ρ1, hl.trans l1.symm, h1, n, e3, ?_⟩
  obtain ⟨a, vs, ea', ca, la'⟩ := h2.contV rfl
  subst ea'
  have h3 : SR X.K Gf N H1 (tmp (.ref a) (.lst .own xs) :: tmp w d :: (zs ++ (ts ++ σ.zip (ρ1.set p.base none)))) := by
    have := SR.toFront (rs' := tmp (.ref a) (.lst .own xs) :: zs) (rs := ts ++ σ.zip (ρ1.set p.base none)) (r := tmp w d) (by simpa using h2)
    exact SR.swap2 (by simpa using this)
  obtain ⟨vs', ev', lv', f⟩ := h3.setAt
  refine ⟨a, vs', n, j, rfl, rfl, ev', by rw [lv']; exact ej, ?_⟩
  have h4 := f j (ixN_lt ej)
  have h5 := bk Gf N _ (ts ++ σ.zip (ρ1.set p.base none)) _ z e5 h4
  have h6 := SR.put (ts := ts) (σ := σ) (i := p.base) h5 (by rw [len_set]; exact getS_lt e0) ev
  rw [List.set_set] at h6
  exact q σ _ .refl (by rw [len_set, l1]; exact hl) h6
end
section
variable {X : Cx} {io : List Nat} {W : WX} {st : Stmt} {ex : Env → Option Flow}
def borS (is : List Nat) (ex : Env → Option Flow) : Env → Option Flow := fun ρ => (ex (viewD ρ)).bind fun fl => match fl with
  | .nx _ => some (.nx (wipeD ρ is))
  | .rt d _ => if closedD d = true then some (.rt d (wipeD ρ is)) else none
  | _ => none
def ioB (n : Nat) (is : List Nat) : List Nat := (List.range n).filter fun i => !(is.contains i)
theorem pxs_bor {is : List Nat} (hd : ∀ i ∈ is, i ∉ io) (h : PXS X (ioB X.N.length is) W st ex) : PXS X io W st (borS is ex) := ⟨fun pins s σ H Dn I q0 => by
  refine h.run pins s σ H Dn I ?_
  have hN : σ.length = X.N.length := I.len
  obtain ⟨Gf, N, ts, ρ, hl, hs, fl, e, q⟩ := q0
  obtain ⟨fl0, e1, e⟩ := bnd e
  have mem : ∀ i, i < σ.length → i ∉ is → i ∈ ioB X.N.length is := fun i hi hn => by
    unfold ioB
    rw [List.mem_filter]
    exact ⟨List.mem_range.mpr (by omega), by simpa using hn⟩
  have core : ∀ (σ' : L2.St) (H' : Hp) (v : V) (d : D) (rs' : List Root), Agree (ioB X.N.length is) σ σ' → SR X.K H N H' (tmp v d :: rs') → closedD d = true → Agree io σ σ' ∧ σ'.length = (wipeD ρ is).length ∧ SR X.K Gf N H' (tmp v d :: (ts ++ σ'.zip (wipeD ρ is))) := by
    intro σ' H' v d rs' ag h1 hc
    refine ⟨⟨ag.1, fun i hi => ?_⟩, by rw [wipeD_len, ag.1]; exact hl, ?_⟩
    · by_cases hlt : i < σ.length
      · exact ag.2 i (mem i hlt fun z => hd i z hi)
      · rw [List.getElem?_eq_none (by rw [ag.1]; omega), List.getElem?_eq_none (by omega)]
    · have h2 := hs.unview h1 hc
      have h3 := SR.wipes (ts := tmp v d :: ts) hl h2 is
      refine SR.slots (ts := tmp v d :: ts) h3 ag.1 fun i => ?_
      by_cases hi : i ∈ is
      · by_cases hlt : i < ρ.length
        · exact .inl (wipeD_none hi hlt)
        · exact .inr (by rw [List.getElem?_eq_none (by rw [ag.1]; omega), List.getElem?_eq_none (by omega)])
      · by_cases hlt : i < σ.length
        · exact .inr (ag.2 i (mem i hlt hi))
        · exact .inr (by rw [List.getElem?_eq_none (by rw [ag.1]; omega), List.getElem?_eq_none (by omega)])
  refine ⟨H, N, [], viewD ρ, by rw [view_len]; exact hl, hs.view, fl0, e1, ?_⟩
  cases fl0 with
  | nx ρ' =>
    simp only at e
    cases e
    intro σ' H' ag _ h1
    obtain ⟨a1, a2, a3⟩ := core σ' H' .non .non _ ag (SR.flat h1 .non) rfl
    exact q σ' H' a1 a2 a3.drop
  | rt d ρ' =>
    simp only at e
    split at e
    · rename_i hc
      cases e
      intro v σ' H' ag _ h1
      obtain ⟨a1, a2, a3⟩ := core σ' H' v d _ ag h1 hc
      exact q v σ' H' a1 a2 a3
    · cases e
  | bk ρ' => cases e
  | ct ρ' => cases e
  | ex x ρ' => cases e⟩
end
end FL

/-! P3: comprehensions with two fors. -/
namespace FL
open PySem PySem.Spec PyProof.Rows L2 StX
section
variable {K : PySem.W.Frag} {Gf : Hp} {N : List Addr}
/-- what a comprehension's loop wants, from the evaluator -/
theorem comp_core {t : Tg} {ct : Env → Option (Bool × Env)} {ee : Env → Option (D × Env)} (lc : Ln ct) (le : Ln ee) {σ : L2.St} {items acc0 : List D} {J : L2.It} {cs ts : List Root} {Dl : Addr} {H1 : Hp} {ρw : Env} {fin : List D × Env} {Qe : Hp → Prop}
    (wk : Walks K J cs items) (lw : ρw.length = σ.length) (nw : ∀ j ∈ t.slots, j < ρw.length → ρw[j]? = some none) (hn : SR K Gf N H1 (tmp (.ref Dl) (.lst .own acc0) :: ((cs ++ ts) ++ (wipe σ t.slots).zip ρw))) (e2 : compL (bindT t) ct ee t.slots items ρw acc0 = some fin)
    (q : ∀ H', SR K Gf N H' (tmp (.ref Dl) (.lst .own fin.1) :: ((cs ++ ts) ++ (wipe σ t.slots).zip fin.2)) → fin.2.length = σ.length → (∀ j ∈ t.slots, j < fin.2.length → fin.2[j]? = some none) → Qe H') :
    ∃ W : Nat → Nat → Hp → Prop, (∃ m, W 0 m H1) ∧ ∀ i m H, W i m H → (J.stop i H ∧ Qe H) ∨ (J.go i H ∧ ∃ Nx : Hp → Prop, (∀ H', Nx H' → ∃ m', m' < m ∧ W (i + 1) m' H') ∧ ∀ x H', J.yld i H x H' → gT K t x (wipe σ t.slots) H' fun σ2 H2 => wipe σ2 t.slots = wipe σ t.slots ∧ tIT K ct σ2 H2 fun b H3 =>
      if b = true then tI K ee σ2 H3 fun y H4 => ∃ acc, H4 Dl = some (.lst acc) ∧ acc.length < sizeLine ∧ Nx (upd H4 Dl (.lst (acc ++ [y]))) else Nx H3) := by
  refine ⟨fun i m H' => m = items.length - i ∧ i ≤ items.length ∧ ∃ acc ρi, ρi.length = σ.length ∧ (∀ j ∈ t.slots, j < ρi.length → ρi[j]? = some none) ∧ SR K Gf N H' (tmp (.ref Dl) (.lst .own acc) :: ((cs ++ ts) ++ (wipe σ t.slots).zip ρi)) ∧ compL (bindT t) ct ee t.slots (items.drop i) ρi acc = some fin,
    ⟨items.length, by simp, Nat.zero_le _, acc0, ρw, lw, nw, hn, by simpa using e2⟩, ?_⟩
  rintro i m H' ⟨rfl, hi, acc, ρi, lr, nn, hS, hC⟩
  have hS' : SR K Gf N H' (cs ++ ((tmp (.ref Dl) (.lst .own acc) :: ts) ++ (wipe σ t.slots).zip ρi)) := by
    rw [List.append_assoc] at hS
    exact SR.fromFront (r := tmp (.ref Dl) (.lst .own acc)) hS
  obtain ⟨wg, ws⟩ := wk i hS'
  by_cases hlt : i < items.length
  · refine .inr ?_
    have ed : items[i]? = some items[i] := List.getElem?_eq_getElem hlt
    rw [List.drop_eq_getElem_cons hlt] at hC
    simp only [compL] at hC
    obtain ⟨ρ1, e3, hC⟩ := bnd hC
    obtain ⟨⟨b, ρ2⟩, e4, hC⟩ := bnd hC
    obtain ⟨go, yl⟩ := wg _ ed
    refine ⟨go, fun H2 => ∃ acc ρi, ρi.length = σ.length ∧ (∀ j ∈ t.slots, j < ρi.length → ρi[j]? = some none) ∧ SR K Gf N H2 (tmp (.ref Dl) (.lst .own acc) :: ((cs ++ ts) ++ (wipe σ t.slots).zip ρi)) ∧ compL (bindT t) ct ee t.slots (items.drop (i + 1)) ρi acc = some fin,
      fun H2 h2 => ⟨items.length - (i + 1), by omega, rfl, by omega, h2⟩, fun x H2 y => ?_⟩
    have h3 := yl x H2 y
    have h3' : SR K Gf N H2 (tmp x items[i] :: ((cs ++ (tmp (.ref Dl) (.lst .own acc) :: ts)) ++ (wipe σ t.slots).zip ρi)) := by rw [List.append_assoc]; exact h3
    refine tg_ok t (by rw [wipe_length]; exact lr.symm) h3' e3 fun σ2 H3 sm l1 h4 => ⟨?_, ?_⟩
    · rw [wipe_eq sm, wipe_eq Same.wipe]
    · have ls2 : σ2.length = ρ1.length := by rw [sm.1, wipe_length, l1, lr]
      refine ⟨Gf, N, _, ρ1, ls2, h4, (b, ρ2), e4, fun H4 h5 => ?_⟩
      have l2 : ρ2.length = ρ1.length := lc _ _ e4
      cases b with
      | true =>
        refine iteT ?_
        obtain ⟨⟨yd, ρ3⟩, e5, hC⟩ := bnd hC
        split at hC
        · rename_i hsz
          refine ⟨Gf, N, _, ρ2, ls2.trans l2.symm, h5, _, e5, fun u H5 h6 => ?_⟩
          have l3 : ρ3.length = ρ2.length := le _ _ e5
          have h7 : SR K Gf N H5 ((tmp u yd :: (cs ++ (tmp (.ref Dl) (.lst .own acc) :: ts))) ++ σ2.zip (wipeD ρ3 t.slots)) := SR.wipes (by rw [ls2, l3, l2]) h6 t.slots
          have h8 : SR K Gf N H5 ((tmp u yd :: (cs ++ (tmp (.ref Dl) (.lst .own acc) :: ts))) ++ (wipe σ t.slots).zip (wipeD ρ3 t.slots)) :=
            h7.slots sm.1.symm fun j => wiped_slots sm (by rw [ls2, l3, l2]) j
          have h9 : SR K Gf N H5 (tmp (.ref Dl) (.lst .own acc) :: tmp u yd :: ((cs ++ ts) ++ (wipe σ t.slots).zip (wipeD ρ3 t.slots))) := by
            refine h8.perm ?_
            show (tmp u yd :: ((cs ++ (tmp (.ref Dl) (.lst .own acc) :: ts)) ++ _)).Perm _
            refine (List.Perm.cons _ ?_).trans (.swap _ _ _)
            rw [List.append_assoc, List.append_assoc]
            exact List.perm_middle
          obtain ⟨vs, ev, lv, h10⟩ := h9.push
          refine ⟨vs, ev, by rw [lv, sizeLine_eq]; exact hsz, acc ++ [yd], _, by rw [wipeD_len, l3, l2, l1, lr], fun j hj hlt => wipeD_none hj (by rw [wipeD_len] at hlt; exact hlt), h10, hC⟩
        · cases hC
      | false =>
        refine iteF ?_
        have h7 := SR.wipes (by rw [ls2, l2]) h5 t.slots
        have h8 := h7.slots sm.1.symm fun j => wiped_slots sm (by rw [ls2, l2]) j
        refine ⟨acc, _, by rw [wipeD_len, l2, l1, lr], fun j hj hlt => wipeD_none hj (by rw [wipeD_len] at hlt; exact hlt), ?_, hC⟩
        rw [List.append_assoc] at h8
        rw [List.append_assoc]
        exact SR.toFront (r := tmp (.ref Dl) (.lst .own acc)) h8
  · have ei : i = items.length := by omega
    refine .inl ⟨ws (show items.length ≤ i by omega), ?_⟩
    rw [List.drop_of_length_le (by omega)] at hC
    simp only [compL] at hC
    cases hC
    exact q _ hS lr nn
/-! ### two fors -/
def compE2 (t1 t2 : Tg) (i1 i2 : Env → Option (List D × Env)) (ct : Env → Option (Bool × Env)) (ee : Env → Option (D × Env)) : Env → Option (D × Env) := fun ρ => (i1 ρ).bind fun p => (comp2L t1 t2 i2 ct ee p.1 (wipeD p.2 (t1.slots ++ t2.slots)) []).map fun q => (.lst .own q.1, q.2)
theorem comp2L_len {t1 t2 : Tg} {i2 : Env → Option (List D × Env)} {ct : Env → Option (Bool × Env)} {ee : Env → Option (D × Env)} (li : Ln i2) (lc : Ln ct) (le : Ln ee) : ∀ {ds : List D} {ρ : Env} {acc : List D} {p : List D × Env}, comp2L t1 t2 i2 ct ee ds ρ acc = some p → p.2.length = ρ.length
  | [], ρ, acc, p, h => by simp only [comp2L] at h; cases h; rfl
  | d :: ds, ρ, acc, p, h => by
    simp only [comp2L] at h
    obtain ⟨ρ1, e1, h⟩ := bnd h
    obtain ⟨q, e2, h⟩ := bnd h
    obtain ⟨r, e3, h⟩ := bnd h
    rw [comp2L_len li lc le h, wipeD_len, compL_len lc le e3, wipeD_len, li _ _ e2, bindT_len e1]
theorem compE2_ln {t1 t2 : Tg} {i1 i2 : Env → Option (List D × Env)} {ct : Env → Option (Bool × Env)} {ee : Env → Option (D × Env)} (l1 : Ln i1) (li : Ln i2) (lc : Ln ct) (le : Ln ee) : Ln (compE2 t1 t2 i1 i2 ct ee) := fun ρ p e => by
  obtain ⟨q, e1, e⟩ := bnd e
  obtain ⟨r, e2, rfl⟩ := mpd e
  have := comp2L_len li lc le e2
  rw [wipeD_len, l1 _ _ e1] at this
  exact this
theorem tI_comp2 {t1 t2 : Tg} {i1 i2 : Env → Option (List D × Env)} {ct : Env → Option (Bool × Env)} {ee : Env → Option (D × Env)} (l1 : Ln i1) (li : Ln i2) (lc : Ln ct) (le : Ln ee) {σ : L2.St} {H : Hp} {Q : VK} (h : tI K (compE2 t1 t2 i1 i2 ct ee) σ H Q) :
    tLc2 (tIt K i1) (gT K t1) (tIT K fun ρ => some (true, ρ)) (tIt K i2) (gT K t2) (tIT K ct) (tI K ee) (t1.slots ++ t2.slots) t2.slots σ H Q := by
  obtain ⟨Gf, N, ts, ρ, hl, hs, p, e, q⟩ := h
  obtain ⟨⟨items, ρ0⟩, e1, e⟩ := bnd e
  obtain ⟨fin, e2, rfl⟩ := mpd e
  refine ⟨Gf, N, ts, ρ, hl, hs, _, e1, fun J cs H1 wk h1 Dl hD => ?_⟩
  generalize hvs : t1.slots ++ t2.slots = vs at *
  have sub1 : ∀ j ∈ t1.slots, j ∈ vs := fun j hj => by rw [← hvs]; exact List.mem_append_left _ hj
  have sub2 : ∀ j ∈ t2.slots, j ∈ vs := fun j hj => by rw [← hvs]; exact List.mem_append_right _ hj
  have l0 : ρ0.length = σ.length := (l1 _ _ e1).trans hl.symm
  have hcs : SR K Gf N H1 ((cs ++ ts) ++ σ.zip ρ0) := by rw [List.append_assoc]; exact h1
  have hw : SR K Gf N H1 ((cs ++ ts) ++ (wipe σ vs).zip (wipeD ρ0 vs)) :=
    (hcs.wipes l0.symm vs).slots (wipe_length _ _) fun i => by
      rcases wiped_slots (σ := σ) (σ2 := σ) (ρ := ρ0) (vs := vs) Same.wipe.symm l0.symm i with z | z
      · exact .inl z
      · exact .inr z
  have hn := SR.newL (vs := []) (ds := []) (p := Dl) hw rfl hD
  refine ⟨fun i m H' => m = items.length - i ∧ i ≤ items.length ∧ ∃ acc ρi, ρi.length = σ.length ∧ (∀ j ∈ vs, j < ρi.length → ρi[j]? = some none) ∧ SR K Gf N H' (tmp (.ref Dl) (.lst .own acc) :: ((cs ++ ts) ++ (wipe σ vs).zip ρi)) ∧ comp2L t1 t2 i2 ct ee (items.drop i) ρi acc = some fin,
    ⟨items.length, by simp, Nat.zero_le _, [], _, by rw [wipeD_len]; exact l0, fun j hj hlt => wipeD_none hj (by rw [wipeD_len] at hlt; exact hlt), hn, by simpa using e2⟩, ?_⟩
  rintro i m H' ⟨rfl, hi, acc, ρi, lr, nn, hS, hC⟩
  have hS' : SR K Gf N H' (cs ++ ((tmp (.ref Dl) (.lst .own acc) :: ts) ++ (wipe σ vs).zip ρi)) := by
    rw [List.append_assoc] at hS
    exact SR.fromFront (r := tmp (.ref Dl) (.lst .own acc)) hS
  obtain ⟨wg, ws⟩ := wk i hS'
  by_cases hlt : i < items.length
  · refine .inr ?_
    have ed : items[i]? = some items[i] := List.getElem?_eq_getElem hlt
    rw [List.drop_eq_getElem_cons hlt] at hC
    simp only [comp2L] at hC
    obtain ⟨ρ1, e3, hC⟩ := bnd hC
    obtain ⟨⟨items2, ρ2⟩, e4, hC⟩ := bnd hC
    obtain ⟨⟨acc2, ρ3⟩, e5, hC⟩ := bnd hC
    rw [hvs] at hC
    obtain ⟨go, yl⟩ := wg _ ed
    refine ⟨go, fun H2 => ∃ acc ρi, ρi.length = σ.length ∧ (∀ j ∈ vs, j < ρi.length → ρi[j]? = some none) ∧ SR K Gf N H2 (tmp (.ref Dl) (.lst .own acc) :: ((cs ++ ts) ++ (wipe σ vs).zip ρi)) ∧ comp2L t1 t2 i2 ct ee (items.drop (i + 1)) ρi acc = some fin,
      fun H2 h2 => ⟨items.length - (i + 1), by omega, rfl, by omega, h2⟩, fun x H2 y => ?_⟩
    have h3 := yl x H2 y
    have h3' : SR K Gf N H2 (tmp x items[i] :: ((cs ++ (tmp (.ref Dl) (.lst .own acc) :: ts)) ++ (wipe σ vs).zip ρi)) := by rw [List.append_assoc]; exact h3
    refine tg_ok t1 (by rw [wipe_length]; exact lr.symm) h3' e3 fun σ2 H3 sm l1' h4 => ⟨?_, ?_⟩
    · rw [wipe_eq (sm.mono sub1), wipe_eq Same.wipe]
    · have ls2 : σ2.length = ρ1.length := by rw [sm.1, wipe_length, l1', lr]
      refine ⟨Gf, N, _, ρ1, ls2, h4, (true, ρ1), rfl, fun H4 h5 => iteT ?_⟩
      have l2 : ρ2.length = ρ1.length := li _ _ e4
      refine ⟨Gf, N, cs ++ (tmp (.ref Dl) (.lst .own acc) :: ts), ρ1, ls2, h5, _, e4, fun J1 cs1 H5 wk1 h6 => ?_⟩
      simp only at wk1 h6
      have h7 : SR K Gf N H5 ((cs1 ++ (cs ++ (tmp (.ref Dl) (.lst .own acc) :: ts))) ++ σ2.zip ρ2) := by rw [List.append_assoc]; exact h6
      have h8 : SR K Gf N H5 ((cs1 ++ (cs ++ (tmp (.ref Dl) (.lst .own acc) :: ts))) ++ (wipe σ2 t2.slots).zip (wipeD ρ2 t2.slots)) :=
        (h7.wipes (by rw [ls2, l2]) t2.slots).slots (wipe_length _ _) fun i => by
          rcases wiped_slots (σ := σ2) (σ2 := σ2) (ρ := ρ2) (vs := t2.slots) Same.wipe.symm (by rw [ls2, l2]) i with z | z
          · exact .inl z
          · exact .inr z
      have h9 : SR K Gf N H5 (tmp (.ref Dl) (.lst .own acc) :: ((cs1 ++ (cs ++ ts)) ++ (wipe σ2 t2.slots).zip (wipeD ρ2 t2.slots))) := by
        refine h8.perm ?_
        have := List.perm_middle (l₁ := cs1 ++ cs) (l₂ := ts ++ (wipe σ2 t2.slots).zip (wipeD ρ2 t2.slots)) (a := tmp (.ref Dl) (.lst .own acc))
        simpa [List.append_assoc] using this
      refine comp_core (σ := σ2) lc le wk1 (by rw [wipeD_len, l2, ls2]) (fun j hj hlt => wipeD_none hj (by rw [wipeD_len] at hlt; exact hlt)) h9 e5 fun H6 h10 l3 n3 => ?_
      simp only at h10 l3 n3
      have h11 : SR K Gf N H6 ((tmp (.ref Dl) (.lst .own acc2) :: (cs ++ ts)) ++ (wipe σ2 t2.slots).zip ρ3) := by
        have p1 : (tmp (.ref Dl) (.lst .own acc2) :: ((cs1 ++ (cs ++ ts)) ++ (wipe σ2 t2.slots).zip ρ3)).Perm (cs1 ++ ((tmp (.ref Dl) (.lst .own acc2) :: (cs ++ ts)) ++ (wipe σ2 t2.slots).zip ρ3)) := by
          have := (List.perm_middle (l₁ := cs1) (l₂ := (cs ++ ts) ++ (wipe σ2 t2.slots).zip ρ3) (a := tmp (.ref Dl) (.lst .own acc2))).symm
          simpa [List.append_assoc] using this
        exact (h10.perm p1).dropL
      have h12 := SR.wipes (by rw [wipe_length, l3]) h11 vs
      have h13 : SR K Gf N H6 ((tmp (.ref Dl) (.lst .own acc2) :: (cs ++ ts)) ++ (wipe σ vs).zip (wipeD ρ3 vs)) := h12.slots (by rw [wipe_length, wipe_length, sm.1, wipe_length]) fun j => by
        by_cases hj : j ∈ vs
        · by_cases hjl : j < ρ3.length
          · exact .inl (wipeD_none hj hjl)
          · refine .inr ?_
            rw [List.getElem?_eq_none (by rw [← sm.1]; omega), List.getElem?_eq_none (by rw [wipe_length]; omega)]
        · refine .inr ?_
          rw [wipe_out fun z => hj (sub2 j z)]
          exact (sm.2 j fun z => hj (sub1 j z)).symm
      exact ⟨acc2, _, by rw [wipeD_len, l3, sm.1, wipe_length], fun j hj hlt => wipeD_none hj (by rw [wipeD_len] at hlt; exact hlt), h13, hC⟩
  · have ei : i = items.length := by omega
    refine .inl ⟨ws (show items.length ≤ i by omega), ?_⟩
    rw [List.drop_of_length_le (by omega)] at hC
    simp only [comp2L] at hC
    cases hC
    refine q _ _ ?_
    have h3 : SR K Gf N H' ((tmp (.ref Dl) (.lst .own acc) :: (cs ++ ts)) ++ σ.zip ρi) := SR.slots (σ := wipe σ vs) hS (wipe_length _ _).symm fun j => by
      by_cases hj : j ∈ vs
      · by_cases hjl : j < ρi.length
        · exact .inl (nn j hj hjl)
        · refine .inr ?_
          rw [List.getElem?_eq_none (by omega), List.getElem?_eq_none (by rw [wipe_length]; omega)]
      · exact .inr (wipe_out hj).symm
    have h4 : SR K Gf N H' (cs ++ (tmp (.ref Dl) (.lst .own acc) :: (ts ++ σ.zip ρi))) := by
      refine h3.perm ?_
      show (tmp (.ref Dl) (.lst .own acc) :: ((cs ++ ts) ++ σ.zip ρi)).Perm _
      rw [List.append_assoc]
      exact List.perm_middle.symm
    exact h4.dropL
end
end FL

/-! P4: a name for an item that is changed (the container keeps a hole meanwhile), a loop that changes its items. -/
namespace FL
open PySem PySem.Spec PyProof.Rows L2
section
theorem wp_execs_app (M : Model) (Γ : PySem.Ctx) (env : PySem.Env) (l2 : List Stmt) (Q : PySem.Flow → Pos → Shared → Prop) (E : Value → Pos → Shared → Prop) : ∀ (l1 : List Stmt) (p : Pos) (s : Shared),
    Sem.wp M Γ (execs l1 env) (fun f p' s' => match f with | .next => Sem.wp M Γ (execs l2 env) Q E p' s' | f => Q f p' s') E p s → Sem.wp M Γ (execs (l1 ++ l2) env) Q E p s
  | [], p, s, h => h
  | st :: l1, p, s, h => by
    rw [execs_cons, Sem.wp_bind'] at h
    rw [List.cons_append, execs_cons, Sem.wp_bind']
    refine Sem.wp_mono M Γ _ (fun f p' s' h' => ?_) (fun _ _ _ h' => h') _ _ h
    cases f <;> first | exact wp_execs_app M Γ env l2 Q E l1 p' s' h' | exact h'
theorem pss_app {X : Cx} {l1 l2 : List Stmt} {t u : TS} (h1 : PSs X l1 t) (h2 : PSs X l2 u) : PSs X (l1 ++ l2) (tSeq t u) := ⟨fun pins s σ H D I h Γ p hΓ => by
  refine wp_execs_app _ _ _ _ _ _ l1 p s (Sem.wp_mono _ _ _ (fun f p' s' q => ?_) (fun _ _ _ h' => h') _ _ (h1.run pins s σ H { D with nx := u D } I h Γ p hΓ))
  cases f with
  | next =>
    obtain ⟨σ', H', I', q⟩ := q
    exact h2.run pins s' σ' H' D I' q Γ p' hΓ
  | ret v => exact q
  | brk => exact q
  | cont => exact q⟩
end
section
variable {K : PySem.W.Frag} {Gf H : Hp} {N : List Addr} {rs ts : List Root}
theorem SR.isHole {u v : V} (h : SR K Gf N H (tmp v (.hole u) :: rs)) : v = u := by
  obtain ⟨n, F, nd, r, g⟩ := h
  cases r with
  | cons y r => cases y; rfl
theorem SR.hole {u : V} (h : SR K Gf N H rs) : SR K Gf N H (tmp u (.hole u) :: rs) := by
  obtain ⟨n, F, nd, r, g⟩ := h
  exact ⟨n, F, nd, .cons (F1 := []) (.hole u) r, g⟩
theorem SR.backN : ∀ (ns : List Int) {d d' y : D} {u v : V} {rs : List Root}, getN ns d = some (.hole u) → putN ns d y = some d' → SR K Gf N H (tmp u y :: tmp v d :: rs) → SR K Gf N H (tmp v d' :: rs)
  | [], d, d', y, u, v, rs, e1, e2, h => by
    simp only [getN, putN] at e1 e2
    cases e1; cases e2
    have := SR.isHole (v := v) h.swap2
    subst this
    exact h.dropMid
  | n :: ns, d, d', y, u, v, rs, e1, e2, h => by
    simp only [getN, putN] at e1 e2
    obtain ⟨x, f1, e1⟩ := bnd e1
    obtain ⟨x0, f2, e2⟩ := bnd e2
    rw [f1] at f2; cases f2
    obtain ⟨x', f3, e2⟩ := bnd e2
    obtain ⟨j, ho, ej, ex⟩ := get1_some f1
    obtain ⟨j', _, ej', rfl⟩ := put1_some e2
    rw [ej] at ej'; cases ej'
    obtain ⟨a, vs, ev, c, l, f⟩ := SR.out (v := v) h.swap2 ho
    obtain ⟨u1, eu1, h1⟩ := f j x ex
    have h2 : SR K Gf N H (tmp u y :: tmp u1 x :: tmp v (setSeq d ((itemsD d).set j (.hole u1))) :: rs) := by
      refine h1.perm ?_
      refine (List.Perm.cons _ (.swap _ _ _)).trans (.swap _ _ _)
    have h3 := SR.backN ns e1 f3 h2
    have hj : j < (itemsD d).length := (List.getElem?_eq_some_iff.mp ex).1
    have h4 := SR.back (j := j) h3 (setSeq_own ho) (by rw [items_setSeq ho]; simp [hj])
    rw [items_setSeq ho, setSeq_setSeq, List.set_set] at h4
    exact h4
theorem giveE_some {i b : Nat} {ns : List Int} {v : V} {ρ ρ' : Env} (h : giveE i b ns v ρ = some ρ') : ∃ y d z, getS ρ i = some y ∧ getS ρ b = some d ∧ getN ns d = some (.hole v) ∧ putN ns d y = some z ∧ ρ' = (ρ.set i none).set b (some z) := by
  unfold giveE at h
  obtain ⟨y, e1, h⟩ := bnd h
  obtain ⟨d, e2, h⟩ := bnd h
  split at h
  · obtain ⟨z, e3, rfl⟩ := mpd h
    exact ⟨y, d, z, e1, e2, by assumption, e3, rfl⟩
  · cases h
theorem getS_set_ne {ρ : Env} {i b : Nat} {o : Option D} (h : i ≠ b) : getS (ρ.set i o) b = getS ρ b := by
  unfold getS
  rw [List.getElem?_set_ne h]
theorem giveE_len {i b : Nat} {ns : List Int} {v : V} {ρ ρ' : Env} (h : giveE i b ns v ρ = some ρ') : ρ'.length = ρ.length := by
  obtain ⟨y, d, z, _, _, _, _, rfl⟩ := giveE_some h
  rw [len_set, len_set]
theorem giveE_SR {i b : Nat} {ns : List Int} {v : V} {σ : L2.St} {ρ ρ' : Env} (hib : i ≠ b) (h : giveE i b ns v ρ = some ρ') (hl : σ.length = ρ.length) (ev : σ[i]? = some (some v)) (hs : SR K Gf N H (ts ++ σ.zip ρ)) : SR K Gf N H (ts ++ σ.zip ρ') := by
  obtain ⟨y, d, z, e1, e2, e3, e4, rfl⟩ := giveE_some h
  have h1 := hs.take e1 ev
  obtain ⟨w, ew⟩ := hs.slotV hl e2
  have h2 := SR.take (ts := tmp v y :: ts) h1 ((getS_set_ne hib).trans e2) ew
  have h3 := SR.backN ns e3 e4 (SR.swap2 h2)
  have h4 := SR.put (ts := ts) (σ := σ) (i := b) h3 (by rw [len_set, len_set]; exact getS_lt e2) ew
  rw [List.set_set] at h4
  exact h4
theorem agree_of {i b : Nat} {io : List Nat} {σ σ1 σ' : L2.St} (a : Agree io σ σ1) (h : Agree (i :: b :: io) σ1 σ') : Agree io σ σ' := a.trans ⟨h.1, fun j hj => h.2 j (List.mem_cons_of_mem _ (List.mem_cons_of_mem _ hj))⟩
theorem give_ok {i b : Nat} {ns : List Int} {v : V} {io : List Nat} {W : WX} {σ σ1 : L2.St} {Dn : Ends} {fl fl' : Flow} (hib : i ≠ b) (e : giveF i b ns v fl = some fl') (ev : σ1[i]? = some (some v)) (ag : Agree io σ σ1) (q : FlowOk K Gf N ts io W σ Dn fl') : FlowOk K Gf N ts (i :: b :: io) W σ1 Dn fl := by
  have eva : ∀ {σ' : L2.St}, Agree (i :: b :: io) σ1 σ' → σ'[i]? = some (some v) := fun a => (a.2 i (by simp)).trans ev
  cases fl with
  | nx ρ =>
    obtain ⟨ρ', e1, rfl⟩ := mpd e
    exact fun σ' H' a l h => q σ' H' (agree_of ag a) (by rw [giveE_len e1]; exact l) (giveE_SR hib e1 l (eva a) h)
  | bk ρ =>
    obtain ⟨ρ', e1, rfl⟩ := mpd e
    exact fun σ' H' a l h => q σ' H' (agree_of ag a) (by rw [giveE_len e1]; exact l) (giveE_SR hib e1 l (eva a) h)
  | ct ρ =>
    obtain ⟨ρ', e1, rfl⟩ := mpd e
    exact fun σ' H' a l h => q σ' H' (agree_of ag a) (by rw [giveE_len e1]; exact l) (giveE_SR hib e1 l (eva a) h)
  | rt d ρ =>
    obtain ⟨ρ', e1, rfl⟩ := mpd e
    exact fun w σ' H' a l h => q w σ' H' (agree_of ag a) (by rw [giveE_len e1]; exact l) (giveE_SR (ts := tmp w d :: ts) hib e1 l (eva a) h)
  | ex x ρ =>
    obtain ⟨ρ', e1, rfl⟩ := mpd e
    exact fun cls d σ' H' a l h => q cls d σ' H' (agree_of ag a) (by rw [giveE_len e1]; exact l) (h.imp fun ts' h1 => by
      have h2 : SR K Gf N H' ((ts' ++ ts) ++ σ'.zip ρ) := by rw [List.append_assoc]; exact h1
      have h3 := giveE_SR hib e1 l (eva a) h2
      rw [List.append_assoc] at h3
      exact h3)
end
/-! ### a name for an item -/
section
variable {X : Cx} {io : List Nat} {W : WX} {st : Stmt} {body rest : List Stmt} {xb xr : Env → Option Flow}
noncomputable def aliE (i : Nat) (p : Pl) (xb xr : Env → Option Flow) : Env → Option Flow := fun ρ => (getP ρ p).bind fun y => (ixsD ρ p).bind fun ns => (allV fun v => ((putP ρ p (.hole v)).bind fun z => putS (ρ.set p.base (some z)) i y).bind fun ρ1 => (xb ρ1).bind (giveF i p.base ns v)).bind fun fl => match fl with
    | .nx ρ1 => xr ρ1
    | fl => some fl
theorem pxss_ali {i : Nat} {p : Pl} (hib : i ≠ p.base) (hio : i ∉ io) (h : PS X st (tAsg (tPl X.K p) (gName i))) (hb : PXSs X (i :: p.base :: io) W body xb) (hr : PXSs X io W rest xr) : PXSs X io W (st :: (body ++ rest)) (aliE i p xb xr) :=
  pss_imp (pss_cons h (pss_app hb hr)) fun D σ H ⟨Gf, N, ts, ρ, hl, hs, fl, e, q⟩ => by
    obtain ⟨y, e1, e⟩ := bnd e
    obtain ⟨ns, e2, e⟩ := bnd e
    obtain ⟨f1, e3, e⟩ := bnd e
    obtain ⟨d0, e0⟩ := getP_base e1
    refine ⟨Gf, N, ts, ρ, hl, hs, y, e1, fun v u zs ev h1 bk => ?_⟩
    have e4 := allV_some e3 u
    obtain ⟨ρ1, e5, e4⟩ := bnd e4
    obtain ⟨z, e6, e5⟩ := bnd e5
    obtain ⟨fb, e7, e8⟩ := bnd e4
    obtain ⟨hi, rfl⟩ := putS_some e5
    have h2 : SR X.K Gf N H (tmp u (.hole u) :: (zs ++ (tmp u y :: (ts ++ σ.zip (ρ.set p.base none))))) := SR.hole (SR.fromFront h1)
    have h3 := bk Gf N H _ _ z e6 h2
    have h4 : SR X.K Gf N H ((tmp u y :: ts) ++ σ.zip (ρ.set p.base (some z))) := by
      have := SR.put (ts := tmp u y :: ts) (σ := σ) (i := p.base) h3 (by rw [len_set]; exact getS_lt e0) ev
      rw [List.set_set] at this
      exact this
    have h5 : SR X.K Gf N H (ts ++ (σ.set i (some u)).zip ((ρ.set p.base (some z)).set i (some y))) := SR.store h4 (by rw [len_set]; exact hl) hi
    have ag : Agree io σ (σ.set i (some u)) := (Same.set (is := [i]) (by simp)).agree fun j hj => by simp at hj; subst hj; exact hio
    have hlt : i < σ.length := by rw [len_set] at hi; rw [hl]; exact hi
    refine ⟨Gf, N, ts, _, by rw [List.length_set, len_set, len_set]; exact hl, h5, fb, e7, ?_⟩
    refine give_ok (σ := σ) hib e8 (by simp [hlt]) ag ?_
    cases f1 with
    | nx ρ2 => exact fun σ' H' a l h => ⟨Gf, N, ts, ρ2, l, h, fl, e, q.agree a⟩
    | bk ρ2 => cases e; exact q
    | ct ρ2 => cases e; exact q
    | rt d ρ2 => cases e; exact q
    | ex x ρ2 => cases e; exact q
/-! ### a loop that changes its items -/
theorem lenO_some {ρ : Env} {b n : Nat} (h : lenO ρ b = some n) : ∃ ds, getS ρ b = some (.lst .own ds) ∧ ds.length = n := by
  unfold lenO at h
  obtain ⟨d, e1, h⟩ := bnd h
  obtain ⟨ds, e2, rfl⟩ := mpd h
  have := lstO_some e2
  subst this
  exact ⟨ds, e1, rfl⟩
theorem sqL_eq {K : PySem.W.Frag} {H : Hp} {a : Addr} {vs : List V} (h : H a = some (.lst vs)) : SqL K H a vs := .inl (.inl h)
theorem pxs_loopO {t b : Nat} (htb : t ≠ b) (hio : t ∉ io) (hb : PXSs X (t :: b :: io) W body xb) (h : PS X st (tFor (iList X.K (tVar b)) (gName t) (tX X.K (t :: b :: io) W xb))) :
    PXS X io W st (fun ρ => (lenO ρ b).bind fun n => loopOL xb t b n n 0 ρ) := ps_imp h fun D σ H ⟨Gf, N, ts, ρ, hl, hs, fl, e, q⟩ => by
  obtain ⟨n, e1, e⟩ := bnd e
  obtain ⟨ds0, e0, hn0⟩ := lenO_some e1
  obtain ⟨w, ew⟩ := hs.slotV hl e0
  obtain ⟨a, vs0, rfl, c0, l0⟩ := (hs.take e0 ew).contV rfl
  refine ⟨.ref a, ew, a, rfl, ⟨vs0, c0.1⟩, ?_⟩
  refine ⟨fun j m σ' H' => m = n - j ∧ j ≤ n ∧ ∃ ρi, Agree io σ σ' ∧ σ'.length = ρi.length ∧ σ'[b]? = some (some (.ref a)) ∧ SR X.K Gf N H' (ts ++ σ'.zip ρi) ∧ loopOL xb t b n (n - j) j ρi = some fl,
    ⟨n, rfl, Nat.zero_le _, ρ, .refl, hl, ew, hs, e⟩, ?_⟩
  rintro j m σ' H' ⟨rfl, hle, ρi, ag, lr, eb, hS, hC⟩
  have hlen : lenO ρi b = some n := by
    cases k : n - j with
    | zero => rw [k] at hC; unfold loopOL at hC; split at hC; assumption; cases hC
    | succ k' => rw [k] at hC; unfold loopOL at hC; split at hC; assumption; cases hC
  obtain ⟨ds, ed, hn⟩ := lenO_some hlen
  have hT := hS.take ed eb
  obtain ⟨a', vs, ea, c, l⟩ := SR.contV hT rfl
  cases ea
  have l : vs.length = ds.length := l
  by_cases hlt : j < n
  · refine .inr ?_
    obtain ⟨k, hk⟩ : ∃ k, n - j = k + 1 := ⟨n - j - 1, by omega⟩
    rw [hk] at hC
    unfold loopOL at hC
    rw [if_pos hlen] at hC
    obtain ⟨f1, e3, hC⟩ := bnd hC
    unfold stepO at e3
    rw [ed] at e3
    simp only [Option.bind_some, lstO] at e3
    obtain ⟨y, ey, e3⟩ := bnd e3
    obtain ⟨a2, vs2, ea2, c2, l2, f⟩ := SR.out hT rfl
    cases ea2
    obtain ⟨u, eu, h1⟩ := f j y ey
    have hk' : n - (j + 1) = k := by omega
    refine ⟨⟨vs2, u, c2.1, eu⟩, fun σ2 H2 => ∃ ρi, Agree io σ σ2 ∧ σ2.length = ρi.length ∧ σ2[b]? = some (some (.ref a)) ∧ SR X.K Gf N H2 (ts ++ σ2.zip ρi) ∧ loopOL xb t b n k (j + 1) ρi = some fl,
      fun σ2 H2 h2 => ⟨n - (j + 1), by omega, rfl, by omega, by rw [hk']; exact h2⟩, fun x H2 y2 => ?_⟩
    obtain ⟨hH, y2⟩ := y2
    subst hH
    have ex := y2 vs2 c2.1
    rw [eu] at ex; cases ex
    have e4 := allV_some e3 u
    obtain ⟨ρ1, e5, e4⟩ := bnd e4
    obtain ⟨fb, e7, e8⟩ := bnd e4
    obtain ⟨hi, rfl⟩ := putS_some e5
    have h3 : SR X.K Gf N H2 ((tmp u y :: ts) ++ σ'.zip (ρi.set b (some (.lst .own (ds.set j (.hole u)))))) := by
      have := SR.put (ts := tmp u y :: ts) (σ := σ') (i := b) (SR.swap2 h1) (by rw [len_set]; exact getS_lt ed) eb
      rw [List.set_set] at this
      exact this
    have h5 : SR X.K Gf N H2 (ts ++ (σ'.set t (some u)).zip ((ρi.set b (some (.lst .own (ds.set j (.hole u))))).set t (some y))) := SR.store h3 (by rw [len_set]; exact lr) hi
    have ag2 : Agree io σ (σ'.set t (some u)) := ag.trans ((Same.set (is := [t]) (by simp)).agree fun j hj => by simp at hj; subst hj; exact hio)
    have hlt2 : t < σ'.length := by rw [len_set] at hi; rw [lr]; exact hi
    have eb2 : (σ'.set t (some u))[b]? = some (some (.ref a)) := by rw [List.getElem?_set_ne htb]; exact eb
    show tX X.K (t :: b :: io) W xb _ (σ'.set t (some u)) H2
    refine ⟨Gf, N, ts, _, by rw [List.length_set, len_set, len_set]; exact lr, h5, fb, e7, ?_⟩
    have key : ∀ {σ3 : L2.St}, Agree (b :: io) (σ'.set t (some u)) σ3 → σ3[b]? = some (some (.ref a)) := fun z => (z.2 b (by simp)).trans eb2
    have agb : ∀ {σ3 : L2.St}, Agree (b :: io) (σ'.set t (some u)) σ3 → Agree io σ σ3 := fun z => ag2.trans ⟨z.1, fun i hi => z.2 i (List.mem_cons_of_mem _ hi)⟩
    have main : FlowOk X.K Gf N ts (t :: b :: (b :: io)) W (σ'.set t (some u)) _ fb := give_ok (σ := σ'.set t (some u)) (io := b :: io) htb e8 (by simp [hlt2]) .refl (?_ : FlowOk X.K Gf N ts (b :: io) W (σ'.set t (some u)) { D with nx := fun σ2 H2 => ∃ ρi, Agree io σ σ2 ∧ σ2.length = ρi.length ∧ σ2[b]? = some (some (.ref a)) ∧ SR X.K Gf N H2 (ts ++ σ2.zip ρi) ∧ loopOL xb t b n k (j + 1) ρi = some fl, ct := fun σ2 H2 => ∃ ρi, Agree io σ σ2 ∧ σ2.length = ρi.length ∧ σ2[b]? = some (some (.ref a)) ∧ SR X.K Gf N H2 (ts ++ σ2.zip ρi) ∧ loopOL xb t b n k (j + 1) ρi = some fl, bk := D.nx } f1)
    · have wk : ∀ {σ1 σ2 : L2.St}, Agree (t :: b :: io) σ1 σ2 → Agree (t :: b :: (b :: io)) σ1 σ2 := fun z => ⟨z.1, fun i hi => z.2 i (by simp only [List.mem_cons] at hi ⊢; rcases hi with h1 | h1 | h1 | h1; exact .inl h1; exact .inr (.inl h1); exact .inr (.inl h1); exact .inr (.inr h1))⟩
      cases fb with
      | nx ρ => exact fun σ' H' a l h => main σ' H' (wk a) l h
      | bk ρ => exact fun σ' H' a l h => main σ' H' (wk a) l h
      | ct ρ => exact fun σ' H' a l h => main σ' H' (wk a) l h
      | rt d ρ => exact fun v σ' H' a l h => main v σ' H' (wk a) l h
      | ex x ρ => exact fun cls d σ' H' a l h => main cls d σ' H' (wk a) l h
    · cases f1 with
      | nx ρ2 => exact fun σ3 H4 a l h5 => ⟨ρ2, agb a, l, key a, h5, hC⟩
      | ct ρ2 => exact fun σ3 H4 a l h5 => ⟨ρ2, agb a, l, key a, h5, hC⟩
      | bk ρ2 => cases hC; exact fun σ3 H4 a l h5 => q σ3 H4 (agb a) l h5
      | rt d ρ2 => cases hC; exact fun v σ3 H4 a l h5 => q v σ3 H4 (agb a) l h5
      | ex x ρ2 => cases hC; exact fun cls d σ3 H4 a l h5 => q cls d σ3 H4 (agb a) l h5
  · have ej : n - j = 0 := by omega
    rw [ej] at hC
    unfold loopOL at hC
    rw [if_pos hlen] at hC
    cases hC
    exact .inl ⟨⟨vs, c.1, by omega⟩, q σ' H' ag lr hS⟩
end
end FL

/-! X3: how expressions and statements raise. -/
namespace FL
open PySem PySem.Spec PyProof.Rows L2 StX
abbrev LnX (ev : Env → Option (Exn × Env)) : Prop := ∀ ρ p, ev ρ = some p → p.2.length = ρ.length
def tIX (K : PySem.W.Frag) (W : WX) (ev : Env → Option (Exn × Env)) : TE := fun σ H _ => ∃ Gf N ts ρ, σ.length = ρ.length ∧ SR K Gf N H (ts ++ σ.zip ρ) ∧ ∃ p, ev ρ = some p ∧ ∀ cls d H', XSR K Gf N H' cls d p.1 (ts ++ σ.zip p.2) → W cls d σ H'
def tAX (K : PySem.W.Frag) (W : WX) (ev : Env → Option (Exn × Env)) : TA := fun σ H _ => ∃ Gf N ts ρ, σ.length = ρ.length ∧ SR K Gf N H (ts ++ σ.zip ρ) ∧ ∃ p, ev ρ = some p ∧ ∀ cls d H', XSR K Gf N H' cls d p.1 (ts ++ σ.zip p.2) → W cls d σ H'
structure PXX (X : Cx) (W : WX) (e : Expr) (ev : Env → Option (Exn × Env)) : Prop where
  pe : PE X e (tIX X.K W ev)
  ln : LnX ev
structure PXXs (X : Cx) (W : WX) (es : List Expr) (ev : Env → Option (Exn × Env)) : Prop where
  pa : PA X es (tAX X.K W ev)
  ln : LnX ev
theorem PXX.cg {X : Cx} {W : WX} {e : Expr} {ev ev' : Env → Option (Exn × Env)} (h : PXX X W e ev) (f : ∀ ρ, ev' ρ = ev ρ) : PXX X W e ev' := by
  have : ev' = ev := funext f
  rw [this]; exact h
theorem PXXs.cg {X : Cx} {W : WX} {e : List Expr} {ev ev' : Env → Option (Exn × Env)} (h : PXXs X W e ev) (f : ∀ ρ, ev' ρ = ev ρ) : PXXs X W e ev' := by
  have : ev' = ev := funext f
  rw [this]; exact h
theorem pa_any {X : Cx} {es : List Expr} {t' : TA} (f : ∀ σ H Q, t' σ H Q → ∃ t, PA X es t ∧ t σ H Q) : PA X es t' := ⟨fun pos pins s σ H Q I q => by
  obtain ⟨t, h, q'⟩ := f σ H Q q
  exact h.run pos pins s σ H Q I q'⟩
theorem ps_any {X : Cx} {st : Stmt} {t' : TS} (f : ∀ D σ H, t' D σ H → ∃ t, PS X st t ∧ t D σ H) : PS X st t' := ⟨fun pins s σ H D I q => by
  obtain ⟨t, h, q'⟩ := f D σ H q
  exact h.run pins s σ H D I q'⟩
section
variable {X : Cx} {W : WX} {e a : Expr} {es : List Expr} {pos : Pos}
theorem pxx_none : PXX X W e (fun _ => none) := ⟨⟨fun _ _ _ _ _ _ ⟨_, _, _, _, _, _, _, e, _⟩ => by cases e⟩, fun _ _ e => by cases e⟩
theorem pxxs_none : PXXs X W es (fun _ => none) := ⟨⟨fun _ _ _ _ _ _ _ ⟨_, _, _, _, _, _, _, e, _⟩ => by cases e⟩, fun _ _ e => by cases e⟩
/-! ### calls -/
def callX (ψ : List D → Option (Exn × List (Option D))) (as : As) (er : Env → Option (List (Option D) × Env)) : Env → Option (Exn × Env) := fun ρ => (er ρ).bind fun p => (takeA as p.1 p.2).bind fun q => (ψ q.1).bind fun r => (putA as r.2 q.2).map fun ρ' => (r.1, ρ')
theorem xsr_put {K : PySem.W.Frag} {Gf H : Hp} {N : List Addr} {cls : Value} {d : Option Addr} {x : Exn} {ts : List Root} {σ : L2.St} {as : As} {vs : List V} {os : List (Option D)} {ρ2 ρ3 : Env}
    (h : XSR K Gf N H cls d x (rootsA vs os ++ (ts ++ σ.zip ρ2))) (hl : σ.length = ρ2.length) (rf : RefOk σ as vs) (e : putA as os ρ2 = some ρ3) : XSR K Gf N H cls d x (ts ++ σ.zip ρ3) := h.imp fun ts' h1 => by
  have h2 : SR K Gf N H (rootsA vs os ++ ((ts' ++ ts) ++ σ.zip ρ2)) := by
    refine h1.perm ?_
    simp only [← List.append_assoc]
    exact (List.perm_append_comm.append_right _).append_right _
  have h3 := (put_ok h2 hl rf e).1
  rw [List.append_assoc] at h3
  exact h3
theorem callX_ln {ψ : List D → Option (Exn × List (Option D))} {as : As} {er : Env → Option (List (Option D) × Env)} (lr : Ln er) : LnX (callX ψ as er) := fun ρ p e => by
  obtain ⟨pr, e1, e⟩ := bnd e
  obtain ⟨⟨ds, ρ2⟩, e2, e⟩ := bnd e
  obtain ⟨r, e3, e⟩ := bnd e
  obtain ⟨ρ3, e4, rfl⟩ := mpd e
  show ρ3.length = _
  rw [putA_len e4]
  have := takeA_len e2
  rw [this]; exact lr _ _ e1
theorem pxx_call {φ : List D → Option (D × List (Option D))} {ψ : List D → Option (Exn × List (Option D))} {n : Nat} {as : As} {er : Env → Option (List (Option D) × Env)} (hn : ∀ ds r, ψ ds = some r → ds.length = n) (hr : PXG X es as er)
    (h : PE X e (tCallS (spOf X.K n φ ψ) (WE W) (tArg X.K as er))) : PXX X W e (callX ψ as er) := by
  refine ⟨pe_imp h fun σ H Q ⟨Gf, N, ts, ρ, hl, hs, p, e, q⟩ => ?_, callX_ln hr.ln⟩
  obtain ⟨pr, e1, e⟩ := bnd e
  obtain ⟨⟨ds, ρ2⟩, e2, e⟩ := bnd e
  obtain ⟨r, e3, e⟩ := bnd e
  obtain ⟨ρ3, e4, rfl⟩ := mpd e
  refine ⟨Gf, N, ts, ρ, hl, hs, pr, e1, fun vs H1 rf h1 => ?_⟩
  obtain ⟨h2, l, l2⟩ := take_ok h1 rf e2
  exact call_spX h2 l (by rw [l]; exact hn _ _ e3) e3 fun cls d H' h3 => q cls d H' (xsr_put h3 (by rw [l2, hr.ln _ _ e1]; exact hl) rf e4)
def methX (Ψ : Fx) (ms : List ((Str × Str) × Nat)) (m : Str) (o : A) (as : As) (ex : Env → Option (Option D × Env)) (er : Env → Option (List (Option D) × Env)) : Env → Option (Exn × Env) := fun ρ =>
  (ex ρ).bind fun x => (recvD o x.1 x.2).bind fun s => (methD ms m s).bind fun f => (er x.2).bind fun p => (takeA (.cons o as) (x.1 :: p.1) p.2).bind fun q => (Ψ f q.1).bind fun r => (putA (.cons o as) r.2 q.2).map fun ρ' => (r.1, ρ')
theorem pxx_meth {Φ : Fs} {Ψ : Fx} {ms : List ((Str × Str) × Nat)} {m : Str} {o : A} {as : As} {ex : Env → Option (Option D × Env)} {er : Env → Option (List (Option D) × Env)} {ar : Nat → Nat} (hn : ∀ f ds r, Ψ f ds = some r → ds.length = ar f)
    (ho : PX1 X a o ex) (hr : PXG X es as er)
    (h : ∀ c f, ((c, m), f) ∈ ms → PE X e (FX.tMethS' (He.ga X.K c) m (spOf X.K (ar f) (Φ f) (Ψ f)) (WE W) (fun σ H Q => ∃ Gf N ts ρ, σ.length = ρ.length ∧ SR X.K Gf N H (ts ++ σ.zip ρ) ∧ ∃ p, ex ρ = some p ∧ ∀ v H', (∀ i, o = .ref i → σ[i]? = some (some v)) → SR X.K Gf N H' ((some v, p.1) :: (ts ++ σ.zip p.2)) → Q v H') (tArg X.K as er))) :
    PXX X W e (methX Ψ ms m o as ex er) := by
  refine ⟨pe_any fun σ H Q ⟨Gf, N, ts, ρ, hl, hs, p, e, q⟩ => ?_, fun ρ p e => ?_⟩
  · obtain ⟨x, e1, e⟩ := bnd e
    obtain ⟨s, e2, e⟩ := bnd e
    obtain ⟨f, e3, e⟩ := bnd e
    obtain ⟨pr, e4, e⟩ := bnd e
    obtain ⟨⟨ds, ρ2⟩, e5, e⟩ := bnd e
    obtain ⟨r, e6, e⟩ := bnd e
    obtain ⟨ρ3, e7, rfl⟩ := mpd e
    obtain ⟨fl, c, ns, xs, rfl, hm, mem⟩ := methD_some e3
    refine ⟨_, h c f mem, Gf, N, ts, ρ, hl, hs, x, e1, fun v H1 rf h1 => ?_⟩
    obtain ⟨a, dx, vs, ev, ea⟩ := recv_facts h1 rf e2
    refine ⟨a, dx, _, ev, ea, lookup_zip_none hm, Gf, N, (some v, x.1) :: ts, x.2, by rw [ho.ln _ _ e1]; exact hl, h1, pr, e4, fun us H2 rf2 h2 => ?_⟩
    have rfc : RefOk σ (.cons o as) (v :: us) := by
      cases o with
      | val y => exact rf2
      | ref i => exact ⟨rf i rfl, rf2⟩
    have h2' : SR X.K Gf N H2 (rootsA (v :: us) (x.1 :: pr.1) ++ (ts ++ σ.zip pr.2)) := SR.toFront (r := (some v, x.1)) h2
    obtain ⟨h3, l, l2⟩ := take_ok h2' rfc e5
    exact call_spX h3 l (by rw [l]; exact hn _ _ _ e6) e6 fun cls d H' h4 => q cls d H' (xsr_put h4 (by rw [l2, hr.ln _ _ e4, ho.ln _ _ e1]; exact hl) rfc e7)
  · obtain ⟨x, e1, e⟩ := bnd e
    obtain ⟨s, e2, e⟩ := bnd e
    obtain ⟨f, e3, e⟩ := bnd e
    obtain ⟨pr, e4, e⟩ := bnd e
    obtain ⟨⟨ds, ρ2⟩, e5, e⟩ := bnd e
    obtain ⟨r, e6, e⟩ := bnd e
    obtain ⟨ρ3, e7, rfl⟩ := mpd e
    show ρ3.length = _
    rw [putA_len e7]
    have := takeA_len e5
    rw [this, hr.ln _ _ e4]; exact ho.ln _ _ e1
def makeX (ψ : List D → Option (Exn × List (Option D))) (c : Str) (as : As) (er : Env → Option (List (Option D) × Env)) : Env → Option (Exn × Env) := fun ρ => (er ρ).bind fun p => (takeA as p.1 p.2).bind fun q => (ψ (.obj .own c [] [] :: q.1)).bind fun r => match r with
    | (x, _ :: os) => (putA as os q.2).map fun ρ' => (x, ρ')
    | _ => none
theorem makeX_some {ψ : List D → Option (Exn × List (Option D))} {c : Str} {as : As} {er : Env → Option (List (Option D) × Env)} {ρ : Env} {p : Exn × Env} (h : makeX ψ c as er ρ = some p) :
    ∃ pr ds ρ2 o os, er ρ = some pr ∧ takeA as pr.1 pr.2 = some (ds, ρ2) ∧ ψ (.obj .own c [] [] :: ds) = some (p.1, o :: os) ∧ putA as os ρ2 = some p.2 := by
  obtain ⟨pr, e1, h⟩ := bnd h
  obtain ⟨⟨ds, ρ2⟩, e2, h⟩ := bnd h
  obtain ⟨r, e3, h⟩ := bnd h
  split at h
  · obtain ⟨ρ3, e4, rfl⟩ := mpd h
    exact ⟨pr, ds, ρ2, _, _, e1, e2, e3, e4⟩
  · cases h
theorem pxx_make {φ : List D → Option (D × List (Option D))} {ψ : List D → Option (Exn × List (Option D))} {n : Nat} {c : Str} {as : As} {er : Env → Option (List (Option D) × Env)} (hn : ∀ ds r, ψ ds = some r → ds.length = n) (hr : PXG X es as er)
    (h : PE X e (FX.tMakeS' (He.ga X.K c) (spOf X.K n φ ψ) (WE W) (tArg X.K as er))) : PXX X W e (makeX ψ c as er) := by
  refine ⟨pe_imp h fun σ H Q ⟨Gf, N, ts, ρ, hl, hs, p, e, q⟩ => ?_, fun ρ p e => ?_⟩
  · obtain ⟨pr, ds, ρ2, o, os, e1, e2, e3, e4⟩ := makeX_some e
    refine ⟨Gf, N, ts, ρ, hl, hs, pr, e1, fun vs H1 rf h1 x dx nx ndx ne => ?_⟩
    obtain ⟨h2, l, l2⟩ := take_ok h1 rf e2
    have nx' : (upd H1 dx (.own x)) x = none := by rw [upd_ne (fun z => ne z.symm)]; exact nx
    have h3 := (h2.newX (o := .own x) ndx).newO (c := c) (dx := dx) nx'
    refine call_spX (vs := .ref x :: vs) (ds := .obj .own c [] [] :: ds) h3 (by simp [l]) (by simp only [List.length_cons]; rw [l]; have := hn _ _ e3; simpa using this) e3 fun cls d H' h4 => q cls d H' (xsr_put (h4.imp fun ts' h5 => ?_) (by rw [l2, hr.ln _ _ e1]; exact hl) rf e4)
    have h6 : SR X.K Gf N H' (ts' ++ (some (V.ref x), o) :: (rootsA vs os ++ (ts ++ σ.zip ρ2))) := h5
    exact SR.drop (SR.toFront h6)
  · obtain ⟨pr, ds, ρ2, o, os, e1, e2, e3, e4⟩ := makeX_some e
    rw [putA_len e4]
    have := takeA_len e2
    rw [this]; exact hr.ln _ _ e1
/-! ### o[i] with an own __getitem__ -/
theorem bareO_some {α : Type} {r : α × List (Option D)} {d : α} (h : bareO r = some d) : r = (d, [none, none]) := by
  obtain ⟨y, os⟩ := r
  unfold bareO at h
  split at h
  · rename_i y' e
    cases h
    exact e
  · cases h
theorem gti_core {K : PySem.W.Frag} {Gf H : Hp} {N : List Addr} {rs : List Root} {x y : V} {o : Fl} {c : Str} {ns : List Str} {xs : List D} {e : D} (h : SR K Gf N H (tmp y e :: tmp x (.obj o c ns xs) :: rs)) : ∃ a dx fs, x = .ref a ∧ H a = some (.ins (He.ga K c) dx fs) := by
  obtain ⟨a, vs, ev, ⟨_, dx, ea⟩, _⟩ := SR.contV (v := x) h.swap2 rfl
  exact ⟨a, dx, _, ev, ea⟩
theorem px_gti {Φ : Fs} {Ψ : Fx} {ms : List ((Str × Str) × Nat)} {b : Expr} {ea eb : Env → Option (D × Env)} {ar : Nat → Nat} (hn : ∀ f ds r, Φ f ds = some r → ds.length = ar f) (ha : PX X a ea) (hb : PX X b eb)
    (h : ∀ c f, ((c, Str.ofString "__getitem__"), f) ∈ ms → PE X e (FX.tGti (He.ga X.K c) (spOf X.K (ar f) (Φ f) (Ψ f)) (fun _ _ _ _ => False) (tI X.K ea) (tI X.K eb))) :
    PX X e (fun ρ => (ea ρ).bind fun p => (eb p.2).bind fun q => (methD ms (Str.ofString "__getitem__") p.1).bind fun f => (Φ f [p.1, q.1]).bind fun r => (bareO r).map fun d => (d, q.2)) := by
  refine ⟨pe_any fun σ H Q ⟨Gf, N, ts, ρ, hl, hs, p, e, q⟩ => ?_, fun ρ p e => ?_⟩
  · obtain ⟨pa, e1, e⟩ := bnd e
    obtain ⟨pb, e2, e⟩ := bnd e
    obtain ⟨f, e3, e⟩ := bnd e
    obtain ⟨r, e4, e⟩ := bnd e
    obtain ⟨d, e5, rfl⟩ := mpd e
    have e5 := bareO_some e5
    subst e5
    obtain ⟨fl, c, ns, xs, ep, hm, mem⟩ := methD_some e3
    refine ⟨_, h c f mem, Gf, N, ts, ρ, hl, hs, pa, e1, fun x H1 h1 => ⟨Gf, N, tmp x pa.1 :: ts, pa.2, hl.trans (ha.ln _ _ e1).symm, h1, pb, e2, fun y H2 h2 => ?_⟩⟩
    have h3 : SR X.K Gf N H2 (tmp y pb.1 :: tmp x (.obj fl c ns xs) :: (ts ++ σ.zip pb.2)) := by rw [← ep]; exact h2
    obtain ⟨w, dx, fs, ev, ew⟩ := gti_core h3
    refine ⟨w, dx, fs, ev, ew, call_sp (ds := [pa.1, pb.1]) (rs := ts ++ σ.zip pb.2) h2.swap2 rfl (by have := hn _ _ _ e4; simpa using this) e4 fun v H' h4 => q v H' ?_⟩
    have h5 : SR X.K Gf N H' (tmp v d :: (some x, none) :: (some y, none) :: (ts ++ σ.zip pb.2)) := h4
    exact (h5.swap2.drop).swap2.drop
  · obtain ⟨pa, e1, e⟩ := bnd e
    obtain ⟨pb, e2, e⟩ := bnd e
    obtain ⟨f, e3, e⟩ := bnd e
    obtain ⟨r, e4, e⟩ := bnd e
    obtain ⟨d, e5, rfl⟩ := mpd e
    show pb.2.length = _
    rw [hb.ln _ _ e2]; exact ha.ln _ _ e1
theorem pxx_gti {Φ : Fs} {Ψ : Fx} {ms : List ((Str × Str) × Nat)} {b : Expr} {ea eb : Env → Option (D × Env)} {ar : Nat → Nat} (hn : ∀ f ds r, Ψ f ds = some r → ds.length = ar f) (ha : PX X a ea) (hb : PX X b eb)
    (h : ∀ c f, ((c, Str.ofString "__getitem__"), f) ∈ ms → PE X e (FX.tGti (He.ga X.K c) (spOf X.K (ar f) (Φ f) (Ψ f)) (WE W) (tI X.K ea) (tI X.K eb))) :
    PXX X W e (fun ρ => (ea ρ).bind fun p => (eb p.2).bind fun q => (methD ms (Str.ofString "__getitem__") p.1).bind fun f => (Ψ f [p.1, q.1]).bind fun r => (bareO r).map fun d => (d, q.2)) := by
  refine ⟨pe_any fun σ H Q ⟨Gf, N, ts, ρ, hl, hs, p, e, q⟩ => ?_, fun ρ p e => ?_⟩
  · obtain ⟨pa, e1, e⟩ := bnd e
    obtain ⟨pb, e2, e⟩ := bnd e
    obtain ⟨f, e3, e⟩ := bnd e
    obtain ⟨r, e4, e⟩ := bnd e
    obtain ⟨d, e5, rfl⟩ := mpd e
    have e5 := bareO_some e5
    subst e5
    obtain ⟨fl, c, ns, xs, ep, hm, mem⟩ := methD_some e3
    refine ⟨_, h c f mem, Gf, N, ts, ρ, hl, hs, pa, e1, fun x H1 h1 => ⟨Gf, N, tmp x pa.1 :: ts, pa.2, hl.trans (ha.ln _ _ e1).symm, h1, pb, e2, fun y H2 h2 => ?_⟩⟩
    have h3 : SR X.K Gf N H2 (tmp y pb.1 :: tmp x (.obj fl c ns xs) :: (ts ++ σ.zip pb.2)) := by rw [← ep]; exact h2
    obtain ⟨w, dx, fs, ev, ew⟩ := gti_core h3
    refine ⟨w, dx, fs, ev, ew, call_spX (ds := [pa.1, pb.1]) (rs := ts ++ σ.zip pb.2) h2.swap2 rfl (by have := hn _ _ _ e4; simpa using this) e4 fun cls d' H' h4 => q cls d' H' (h4.imp fun ts' h5 => ?_)⟩
    have h6 : SR X.K Gf N H' (ts' ++ (some x, none) :: ((some y, none) :: (ts ++ σ.zip pb.2))) := h5
    have h7 : SR X.K Gf N H' (ts' ++ (some y, none) :: (ts ++ σ.zip pb.2)) := SR.drop (SR.toFront h6)
    exact SR.drop (SR.toFront h7)
  · obtain ⟨pa, e1, e⟩ := bnd e
    obtain ⟨pb, e2, e⟩ := bnd e
    obtain ⟨f, e3, e⟩ := bnd e
    obtain ⟨r, e4, e⟩ := bnd e
    obtain ⟨d, e5, rfl⟩ := mpd e
    show pb.2.length = _
    rw [hb.ln _ _ e2]; exact ha.ln _ _ e1
/-! ### tuples -/
theorem pxx_tup {ev : Env → Option (Exn × Env)} {k : Nat} (h : PXXs X W es ev) : PXX X W (.Tuple es k pos) ev := ⟨pe_imp (pe_tup h.pa) fun σ H Q q => q, h.ln⟩
def consX (ea : Env → Option (D × Env)) (xa xr : Env → Option (Exn × Env)) : Env → Option (Exn × Env) := fun ρ => match ea ρ with
    | some p => xr p.2
    | none => xa ρ
theorem pxxs_cons {ea : Env → Option (D × Env)} {xa xr : Env → Option (Exn × Env)} (ha : PX X a ea) (hx : PXX X W a xa) (hr : PXXs X W es xr) (hs : starEach (a :: es) X.env = (false, eval a X.env) :: starEach es X.env) : PXXs X W (a :: es) (consX ea xa xr) := by
  refine ⟨pa_any fun σ H Q ⟨Gf, N, ts, ρ, hl, hS, p, e, q⟩ => ?_, fun ρ p e => ?_⟩
  · unfold consX at e
    split at e
    · rename_i pa e1
      refine ⟨_, pa_cons ha.pe hr.pa hs, Gf, N, ts, ρ, hl, hS, pa, e1, fun v H1 h1 => ⟨Gf, N, tmp v pa.1 :: ts, pa.2, hl.trans (ha.ln _ _ e1).symm, h1, p, e, fun cls d H' h2 => q cls d H' (h2.imp fun ts' h3 => ?_)⟩⟩
      have h4 : SR X.K Gf N H' (ts' ++ tmp v pa.1 :: (ts ++ σ.zip p.2)) := h3
      exact SR.drop (SR.toFront h4)
    · exact ⟨_, pa_cons hx.pe hr.pa hs, Gf, N, ts, ρ, hl, hS, p, e, q⟩
  · unfold consX at e
    split at e
    · rename_i pa e1
      rw [hr.ln _ _ e]; exact ha.ln _ _ e1
    · exact hx.ln _ _ e
/-! ### statements -/
variable {io : List Nat} {st : Stmt}
theorem pxs_may {xn : Env → Option Flow} {xe : Env → Option (Exn × Env)} (lx : LnX xe) (hn : PXS X io W st xn) (hx : PS X st (fun _ σ H => tIX X.K W xe σ H fun _ _ => False)) : PXS X io W st (fun ρ => orX (xn ρ) (xe ρ)) :=
  ps_any fun D σ H ⟨Gf, N, ts, ρ, hl, hs, fl, e, q⟩ => by
    have e : orX (xn ρ) (xe ρ) = some fl := e
    cases e1 : xn ρ with
    | some f =>
      rw [e1] at e
      cases e
      exact ⟨_, hn, Gf, N, ts, ρ, hl, hs, fl, e1, q⟩
    | none =>
      rw [e1] at e
      obtain ⟨p, e1, rfl⟩ := mpd (show (xe ρ).map (fun p => Flow.ex p.1 p.2) = some fl from e)
      exact ⟨_, hx, Gf, N, ts, ρ, hl, hs, p, e1, fun cls d H' h => q cls d σ H' .refl (hl.trans (lx _ _ e1).symm) h⟩
theorem pxs_rse0 {c : Str} (h : PS X st (fun _ σ H => W (.ref (He.ga X.K c)) none σ H)) : PXS X io W st (fun ρ => some (.ex ⟨c, none⟩ ρ)) := ps_imp h fun D σ H ⟨Gf, N, ts, ρ, hl, hs, fl, e, q⟩ => by
  cases e
  exact q _ _ σ H .refl hl ⟨rfl, rfl, hs⟩
theorem pxs_rse1 {c f : Str} {ea : Env → Option (D × Env)} (la : Ln ea) (h : PS X st (fun _ σ H => FX.tXm (He.ga X.K c) f (tI X.K ea) σ H fun cls d H' => W cls d σ H')) : PXS X io W st (fun ρ => (ea ρ).map fun p => .ex ⟨c, some (f, p.1)⟩ p.2) :=
  ps_imp h fun D σ H ⟨Gf, N, ts, ρ, hl, hs, fl, e, q⟩ => by
    obtain ⟨p, e1, rfl⟩ := mpd e
    exact ⟨Gf, N, ts, ρ, hl, hs, p, e1, fun v H1 h1 d hd => q _ _ σ _ .refl (hl.trans (la _ _ e1).symm) ⟨rfl, d, v, rfl, upd_same, h1.newX hd⟩⟩
end
end FL

/-! P5: methods of a named list whose arguments read it; two names set at once; list(range(n)); == by an own __eq__; isinstance of an own class. -/
namespace FL
open PySem PySem.Spec PyProof.Rows L2
section
variable {X : Cx} {io : List Nat} {W : WX} {st : Stmt} {er : Env → Option (List D × Env)} {ea eb : Env → Option (D × Env)}
noncomputable def mutNE (i : Nat) (op : MOp) (er : Env → Option (List D × Env)) : Env → Option Flow := fun ρ => (getS ρ i).bind fun x0 => if isLst x0 = true then (er ρ).bind fun q => (getS q.2 i).bind fun x => (lstO x).bind fun ds => (mopD op ds q.1).map fun ds' => .nx (q.2.set i (some (.lst .own ds'))) else none
theorem pxs_mutN {i : Nat} {op : MOp} (ho : mopOk op = true) (lr : Ln er) (h : PS X st (tDrop (tBM X.K "list" (rM op) (tVar i) (tIA X.K er)))) : PXS X io W st (mutNE i op er) := ps_imp h fun D σ H ⟨Gf, N, ts, ρ, hl, hs, fl, e, q⟩ => by
  obtain ⟨x0, e0, e⟩ := bnd e
  split at e
  · rename_i hlst
    obtain ⟨⟨args, ρ1⟩, e1, e⟩ := bnd e
    obtain ⟨x, e3, e⟩ := bnd e
    obtain ⟨ds, e4, e⟩ := bnd e
    obtain ⟨ds', e5, rfl⟩ := mpd e
    have ex := lstO_some e4
    subst ex
    have l1 : ρ1.length = ρ.length := lr _ _ e1
    obtain ⟨w, ew⟩ := hs.slotV hl e0
    have ty : tyV X.K "list" w H := by
      cases x0 <;> simp only [isLst, reduceCtorEq] at hlst
      obtain ⟨a, vs, ea', ca, la'⟩ := (hs.take e0 ew).contV rfl
      subst ea'
      exact .inl ⟨rfl, vs, ca.1⟩
    refine ⟨w, ew, ty, Gf, N, ts, ρ, hl, hs, _, e1, fun ws H1 hw h1 => ?_⟩
    simp only at hw h1 e3
    have h2 : SR X.K Gf N H1 ((tmps ws args ++ ts) ++ σ.zip ρ1) := by rw [List.append_assoc]; exact h1
    have h3 := SR.take h2 e3 ew
    obtain ⟨a, vs, ea', ca, la'⟩ := h3.contV rfl
    subst ea'
    rw [List.append_assoc] at h3
    refine snd_M ho h3 hw e5 fun w' H3 h4 => ?_
    have h6 := SR.put (ts := ts) (σ := σ) (i := i) h4 (by rw [len_set]; exact getS_lt e3) ew
    rw [List.set_set] at h6
    exact q σ _ .refl (by rw [len_set, l1]; exact hl) h6
  · cases e
theorem pxs_par {i j : Nat} (hij : i ≠ j) (hi : i ∉ io) (hj : j ∉ io) (lr : Ln er) (h : PS X st (tPar i j (tIA X.K er))) : PXS X io W st (fun ρ => (er ρ).bind fun p => (putAll p.2 [i, j] p.1).map .nx) := ps_imp h fun D σ H ⟨Gf, N, ts, ρ, hl, hs, fl, e, q⟩ => by
  obtain ⟨⟨ds, ρ1⟩, e1, e⟩ := bnd e
  obtain ⟨ρ2, e2, rfl⟩ := mpd e
  have l1 : ρ1.length = ρ.length := lr _ _ e1
  refine ⟨Gf, N, ts, ρ, hl, hs, _, e1, fun vs H1 hw h1 => ?_⟩
  simp only at hw h1 e2
  match ds, vs, hw, h1, e2 with
  | [d1, d2], [v, w], _, h1, e2 =>
    simp only [putAll] at e2
    obtain ⟨ρ3, e3, e2⟩ := bnd e2
    obtain ⟨ρ4, e4, e2⟩ := bnd e2
    cases e2
    obtain ⟨hi1, rfl⟩ := putS_some e3
    obtain ⟨hj1, rfl⟩ := putS_some e4
    refine ⟨v, w, rfl, ?_⟩
    have h2 : SR X.K Gf N H1 (tmp v d1 :: ((tmp w d2 :: ts) ++ σ.zip ρ1)) := h1
    have h3 := h2.store (hl.trans l1.symm) hi1
    have h4 : SR X.K Gf N H1 (tmp w d2 :: (ts ++ (σ.set i (some v)).zip (ρ1.set i (some d1)))) := h3
    have h5 := h4.store (by rw [List.length_set, len_set, l1]; exact hl) hj1
    refine q _ _ ?_ (by rw [List.length_set, List.length_set, len_set, len_set, l1]; exact hl) h5
    refine Agree.trans ((Same.set (is := [i]) (by simp)).agree fun k hk => by simp at hk; subst hk; exact hi) ((Same.set (is := [j]) (by simp)).agree fun k hk => by simp at hk; subst hk; exact hj)
  | [], _, _, _, e2 => simp [putAll] at e2
  | [_], _, _, _, e2 => simp [putAll] at e2
  | _ :: _ :: _ :: _, _, _, _, e2 => simp [putAll] at e2
/-! ### the datum at a place -/
def plcE (p : Pl) : Env → Option (D × Env) := fun ρ => (getP ρ p).bind fun y => (putP ρ p (share y)).map fun z => (share y, ρ.set p.base (some z))
theorem px_plc {p : Pl} {e : Expr} (h : PE X e (tPl X.K p)) : PX X e (plcE p) := by
  refine ⟨pe_imp h fun σ H Q ⟨Gf, N, ts, ρ, hl, hs, pr, e, q⟩ => ?_, fun ρ pr e => ?_⟩
  · obtain ⟨y, e1, e⟩ := bnd e
    obtain ⟨z, e2, rfl⟩ := mpd e
    obtain ⟨d0, e0⟩ := getP_base e1
    refine ⟨Gf, N, ts, ρ, hl, hs, y, e1, fun v u zs ev h1 bk => q u H ?_⟩
    have h2 : SR X.K Gf N H (tmp u (share y) :: tmp u (share y) :: (zs ++ (ts ++ σ.zip (ρ.set p.base none)))) := h1.share1.dup (share_share y)
    have h3 : SR X.K Gf N H (tmp u (share y) :: (zs ++ (tmp u (share y) :: (ts ++ σ.zip (ρ.set p.base none))))) := by
      refine h2.perm (List.Perm.cons _ ?_)
      exact List.perm_middle.symm
    have h4 := bk Gf N H _ _ z e2 h3
    have h5 := SR.put (ts := tmp u (share y) :: ts) (σ := σ) (i := p.base) h4 (by rw [len_set]; exact getS_lt e0) ev
    rw [List.set_set] at h5
    exact h5
  · obtain ⟨y, e1, e⟩ := bnd e
    obtain ⟨z, e2, rfl⟩ := mpd e
    exact len_set
/-! ### list(range(n)) -/
theorem SR.flats {K : PySem.W.Frag} {Gf H : Hp} {N : List Addr} {rs : List Root} (h : SR K Gf N H rs) (f : Nat → Int) : ∀ l : List Nat, SR K Gf N H (tmps (l.map fun i => V.int (f i)) (l.map fun i => D.int (f i)) ++ rs)
  | [] => h
  | n :: l => SR.flat (SR.flats h f l) (.int (f n))
noncomputable def lrgE (ea : Env → Option (D × Env)) : Env → Option (D × Env) := fun ρ => (ea ρ).bind fun p => match p.1 with
    | .int n => @ite _ (-(2 ^ 62) ≤ n ∧ n ≤ 16777216) (Classical.propDecidable _) (some (.lst .own (rngL 0 n.toNat), p.2)) none
    | _ => none
theorem lrgE_some {ρ : Env} {p : D × Env} (h : lrgE ea ρ = some p) : ∃ n ρ1, ea ρ = some (.int n, ρ1) ∧ (-(2 ^ 62) ≤ n ∧ n ≤ 16777216) ∧ p = (.lst .own (rngL 0 n.toNat), ρ1) := by
  obtain ⟨⟨d, ρ1⟩, e1, h⟩ := bnd h
  cases d <;> simp only [reduceCtorEq] at h
  split at h
  · cases h
    exact ⟨_, ρ1, e1, by assumption, rfl⟩
  · cases h
theorem px_lrg {e : Expr} (h : PE X e (tLstRg (tRg1 (tI X.K ea)))) (la : Ln ea) : PX X e (lrgE ea) := by
  refine ⟨pe_imp h fun σ H Q ⟨Gf, N, ts, ρ, hl, hs, p, e, q⟩ => ?_, fun ρ p e => ?_⟩
  · obtain ⟨n, ρ1, e1, hb, rfl⟩ := lrgE_some e
    refine ⟨Gf, N, ts, ρ, hl, hs, _, e1, fun x H1 h1 => ⟨n, h1.isInt, ⟨by omega, by omega, by omega, by omega, by omega⟩, fun a ha => q _ _ ?_⟩⟩
    have h2 : SR X.K Gf N H1 (ts ++ σ.zip ρ1) := h1.drop
    have h3 := SR.flats h2 (fun i => (0 : Int) + (i : Int)) (List.range n.toNat)
    have h4 := SR.newL (p := a) h3 (by simp) ha
    have e2 : rgV 0 n = (List.range n.toNat).map fun (i : Nat) => V.int ((0 : Int) + (i : Int)) := by unfold rgV; simp
    rw [e2]
    exact h4
  · obtain ⟨n, ρ1, e1, hb, rfl⟩ := lrgE_some e
    have := la _ _ e1
    exact this
/-! ### == by an own __eq__ -/
noncomputable def oeqE (Φ : Fs) (ms : List ((Str × Str) × Nat)) (ea eb : Env → Option (D × Env)) : Env → Option (D × Env) := fun ρ => (ea ρ).bind fun p => (eb p.2).bind fun q => if eqR p.1 q.1 = true then (methD ms (Str.ofString "__eq__") p.1).bind fun f => (Φ f [p.1, q.1]).bind fun r => (bareO r).bind fun d => (blO d).map fun k => (.bl k, q.2) else none
theorem oeqE_some {Φ : Fs} {ms : List ((Str × Str) × Nat)} {ρ : Env} {p : D × Env} (h : oeqE Φ ms ea eb ρ = some p) : ∃ pa pb f k, ea ρ = some pa ∧ eb pa.2 = some pb ∧ eqR pa.1 pb.1 = true ∧ methD ms (Str.ofString "__eq__") pa.1 = some f ∧ Φ f [pa.1, pb.1] = some (.bl k, [none, none]) ∧ p = (.bl k, pb.2) := by
  obtain ⟨pa, e1, h⟩ := bnd h
  obtain ⟨pb, e2, h⟩ := bnd h
  split at h
  · obtain ⟨f, e3, h⟩ := bnd h
    obtain ⟨r, e4, h⟩ := bnd h
    obtain ⟨d, e5, h⟩ := bnd h
    obtain ⟨k, e6, rfl⟩ := mpd h
    have e5 := bareO_some e5
    subst e5
    cases d <;> simp only [blO, reduceCtorEq] at e6
    cases e6
    exact ⟨pa, pb, f, _, e1, e2, by assumption, e3, e4, rfl⟩
  · cases h
theorem right_ok {K : PySem.W.Frag} {Gf H : Hp} {N : List Addr} {rs : List Root} {y : V} {fl : Fl} {c : Str} {ns : List Str} {xs : List D} {d : D} (h : SR K Gf N H (tmp y d :: rs)) (e : eqR (.obj fl c ns xs) d = true) : FX.RightOk K (He.ga K c) y H := by
  by_cases ho : ∃ o c' ms ys, d = .obj o c' ms ys
  · obtain ⟨o, c', ms, ys, rfl⟩ := ho
    have ec : c = c' := by simpa [eqR] using e
    subst ec
    obtain ⟨a, vs, ev, ⟨_, dx, ea⟩, _⟩ := SR.contV (v := y) h rfl
    exact .inr ⟨a, dx, _, ev, ea⟩
  · obtain ⟨G, F, g, r⟩ := h.head
    obtain ⟨t, ty, ht, _⟩ := r.ty g (fun o c ns xs z => ho ⟨_, _, _, _, z⟩) (fun u z => by subst z; simp [eqR] at e) (fun z => by subst z; simp [eqR] at e)
    exact .inl ⟨t, ht, ty⟩
theorem oeq_core {Φ : Fs} {Ψ : Fx} {ms : List ((Str × Str) × Nat)} {ar : Nat → Nat} (hn : ∀ f ds r, Φ f ds = some r → ds.length = ar f) (la : Ln ea) (lb : Ln eb) {σ : L2.St} {H : Hp} {Gf : Hp} {N : List Addr} {ts : List Root} {ρ : Env} {p : D × Env} (hl : σ.length = ρ.length) (hs : SR X.K Gf N H (ts ++ σ.zip ρ)) (e : oeqE Φ ms ea eb ρ = some p) :
    ∃ c f, ((c, Str.ofString "__eq__"), f) ∈ ms ∧ ∀ Q : VK, (∀ k H', p.1 = .bl k → SR X.K Gf N H' (ts ++ σ.zip p.2) → Q (.bl k) H') → tOp (FX.rOeq X.K (He.ga X.K c) (spOf X.K (ar f) (Φ f) (Ψ f)) (fun _ _ _ => False)) (tI X.K ea) (tI X.K eb) σ H Q := by
  obtain ⟨pa, pb, f, k, e1, e2, e0, e3, e4, rfl⟩ := oeqE_some e
  obtain ⟨fl, c, ns, xs, ep, hm, mem⟩ := methD_some e3
  refine ⟨c, f, mem, fun Q q => ⟨Gf, N, ts, ρ, hl, hs, pa, e1, fun x H1 h1 => ⟨Gf, N, tmp x pa.1 :: ts, pa.2, hl.trans (la _ _ e1).symm, h1, pb, e2, fun y H2 h2 => ?_⟩⟩⟩
  have h3 : SR X.K Gf N H2 (tmp y pb.1 :: tmp x (.obj fl c ns xs) :: (ts ++ σ.zip pb.2)) := by rw [← ep]; exact h2
  obtain ⟨w, dx, fs, ev, ew⟩ := gti_core h3
  refine ⟨⟨w, dx, fs, ev, ew⟩, right_ok (fl := fl) (ns := ns) (xs := xs) h3 (by rw [← ep]; exact e0), call_sp (ds := [pa.1, pb.1]) (rs := ts ++ σ.zip pb.2) (SR.swap2 h2) rfl (by have := hn _ _ _ e4; simpa using this) e4 fun v H' h4 => ?_⟩
  have h5 : SR X.K Gf N H' (tmp v (.bl k) :: (some x, none) :: (some y, none) :: (ts ++ σ.zip pb.2)) := h4
  have hv : v = .bl k := h5.isBl
  subst hv
  exact ⟨⟨k, rfl⟩, q k H' rfl (h5.drop.drop.drop)⟩
theorem oeq_ln {Φ : Fs} {ms : List ((Str × Str) × Nat)} (la : Ln ea) (lb : Ln eb) : Ln (oeqE Φ ms ea eb) := fun ρ p e => by
  obtain ⟨pa, pb, f, k, e1, e2, e0, e3, e4, rfl⟩ := oeqE_some e
  show pb.2.length = _
  rw [lb _ _ e2]; exact la _ _ e1
theorem pt_any {X : Cx} {e : Expr} {t' : TT} (f : ∀ σ H Q, t' σ H Q → ∃ t, PT X e t ∧ t σ H Q) : PT X e t' := ⟨fun pins s σ H Q I q => by
  obtain ⟨t, h, q'⟩ := f σ H Q q
  exact h.run pins s σ H Q I q'⟩
theorem px_oeq {Φ : Fs} {Ψ : Fx} {ms : List ((Str × Str) × Nat)} {ar : Nat → Nat} {e : Expr} (hn : ∀ f ds r, Φ f ds = some r → ds.length = ar f) (la : Ln ea) (lb : Ln eb)
    (h : ∀ c f, ((c, Str.ofString "__eq__"), f) ∈ ms → PE X e (tOp (FX.rOeq X.K (He.ga X.K c) (spOf X.K (ar f) (Φ f) (Ψ f)) (fun _ _ _ => False)) (tI X.K ea) (tI X.K eb))) : PX X e (oeqE Φ ms ea eb) := by
  refine ⟨pe_any fun σ H Q ⟨Gf, N, ts, ρ, hl, hs, p, e, q⟩ => ?_, oeq_ln la lb⟩
  obtain ⟨c, f, mem, g⟩ := oeq_core (Ψ := Ψ) hn la lb hl hs e
  refine ⟨_, h c f mem, g Q fun k H' ek h1 => q _ _ ?_⟩
  rw [ek]
  exact SR.flat h1 (.bl k)
theorem pxt_oeq {Φ : Fs} {Ψ : Fx} {ms : List ((Str × Str) × Nat)} {ar : Nat → Nat} {e : Expr} (hn : ∀ f ds r, Φ f ds = some r → ds.length = ar f) (la : Ln ea) (lb : Ln eb)
    (h : ∀ c f, ((c, Str.ofString "__eq__"), f) ∈ ms → PT X e (tTest (tOp (FX.rOeq X.K (He.ga X.K c) (spOf X.K (ar f) (Φ f) (Ψ f)) (fun _ _ _ => False)) (tI X.K ea) (tI X.K eb)))) : PXT X e (asT (oeqE Φ ms ea eb)) := by
  refine ⟨pt_any fun σ H Q ⟨Gf, N, ts, ρ, hl, hs, ⟨b, ρ'⟩, e, q⟩ => ?_, Ln.asT (oeq_ln la lb)⟩
  obtain ⟨c, f, mem, g⟩ := oeq_core (Ψ := Ψ) hn la lb hl hs (asT_some e)
  refine ⟨_, h c f mem, g _ fun k H' ek h1 => ⟨k, rfl, ?_⟩⟩
  cases ek
  exact q _ h1
/-! ### isinstance of an own class -/
/-- what is known of an own class: it is none of the built-in ones -/
structure OcOk (K : PySem.W.Frag) (C : Addr) : Prop where
  ic : PySem.W.findIn K (.ref C) "__class__" = some (some (.builtin "object.__class__"))
  hn : PySem.W.specialIn K (.builtin "object.__class__") "__get__" = some (some (.builtin "getset_descriptor.__get__"))
  htk : PySem.W.takesIn K (.builtin "object.__class__") = some true
  hm : PySem.W.mroIn K C (.type "object") = some true
  cl : Cls K C
  ki : ∀ n ∈ FX.tyNames, PySem.W.kitOne K (.type n) (.ref C) = some false
  su : ∀ n ∈ FX.tyNames, PySem.W.subIn K (.type n) (.ref C) = some false
theorem snd_isO {K : PySem.W.Frag} {Gf H : Hp} {N : List Addr} {rs : List Root} {v : V} {d : D} {c : Str} {b : Bool} {Q : VK} (o : OcOk K (He.ga K c)) (h : SR K Gf N H (tmp v d :: rs)) (e : isiD d (.own c) = some b) (q : Q (.bl b) H) : rIsi K [v, .ref (He.ga K c)] H Q := by
  by_cases ho : ∃ o c' ms ys, d = .obj o c' ms ys
  · obtain ⟨o', c', ms, ys, rfl⟩ := ho
    simp only [isiD] at e
    split at e
    · rename_i ec
      cases e
      subst ec
      obtain ⟨a, vs, ev, ⟨_, dx, ea⟩, _⟩ := SR.contV (v := v) h rfl
      subst ev
      refine ⟨_, _, .ref (He.ga K c'), .ref (He.ga K c'), true, rfl, .own _, .base (.ins ea o.cl o.ic o.hn o.htk o.hm), ?_, q⟩
      unfold PySem.W.kitOne
      simp
    · cases e
  · obtain ⟨G, F, g, r⟩ := h.head
    have hh : ∀ u, d ≠ .hole u := fun u z => by subst z; simp [isiD] at e
    have ha : d ≠ .any := fun z => by subst z; simp [isiD] at e
    obtain ⟨t, ty, ht, _⟩ := r.ty g (fun o c ns xs z => ho ⟨_, _, _, _, z⟩) hh ha
    have eb : b = false := by
      cases d <;> simp only [isiD, Option.some.injEq] at e <;> first | exact e.symm | (exact absurd ⟨_, _, _, _, rfl⟩ ho) | (cases e)
    subst eb
    exact ⟨v, _, .type t, .ref (He.ga K c), false, rfl, .own _, ty, o.ki t ht, q⟩
theorem px_isO {c : Str} {e : Expr} (o : OcOk X.K (He.ga X.K c)) (h : PE X e (tCB (rIsi X.K) (tCons (tI X.K ea) (tCons (tC (.ref (He.ga X.K c))) tNil)))) (la : Ln ea) : PX X e (fun ρ => (ea ρ).bind fun p => (isiD p.1 (.own c)).map fun b => (.bl b, p.2)) := by
  refine ⟨pe_imp h fun σ H Q ⟨Gf, N, ts, ρ, hl, hs, p, e, q⟩ => ?_, fun ρ p e => ?_⟩
  · obtain ⟨pa, e1, e⟩ := bnd e
    obtain ⟨b, e2, rfl⟩ := mpd e
    exact ⟨Gf, N, ts, ρ, hl, hs, pa, e1, fun x H1 h1 => snd_isO o h1 e2 (q _ _ (h1.drop.flat (.bl _)))⟩
  · obtain ⟨pa, e1, e⟩ := bnd e
    obtain ⟨b, e2, rfl⟩ := mpd e
    have := la _ _ e1
    exact this
end
end FL

/-! F13: the checker: does a piece of the small language stand for a piece of the program's text? -/
namespace FL
open PySem PySem.Spec PyProof.Rows L2 StX
structure SC where
  N : List Str
  sc : Scope
  fn : Str → Bool
def visB (sc : Scope) (x : Str) : Bool := match sc.names.lookup x with
  | some .local => true
  | some .cell => true
  | some .free => true
  | _ => false
def locB (sc : Scope) (x : Str) : Bool := match sc.names.lookup x with
  | some .local => true
  | some .cell => true
  | _ => false
def plainN (x : Str) : Bool := !(x == ("__debug__" : Str)) && !(x == ("__classdict__" : Str))
def nameOk (C : SC) (i : Nat) (x : Str) : Bool := decide (C.N[i]? = some x) && (visB C.sc x && plainN x)
def isLoc (sc : Scope) (x : Str) : Bool := decide (sc.names.lookup x = some .local)
def storeOk (C : SC) (i : Nat) (x : Str) : Bool := decide (C.N[i]? = some x) && (locB C.sc x && (C.fn x || isLoc C.sc x))
def glB (C : SC) (x : Str) : Bool := decide (C.sc.names.lookup x = some .globalImplicit) && plainN x
def noStar : Expr → Bool
  | .Starred _ _ => false
  | _ => true
def notCall : Expr → Bool
  | .Call _ _ _ _ => false
  | _ => true
def notSlice : Expr → Bool
  | .Slice _ _ _ _ => false
  | _ => true
def notSet : Expr → Bool
  | .Set _ _ _ => false
  | _ => true
def notComp : Expr → Bool
  | .ListComp _ _ _ _ => false
  | .SetComp _ _ _ _ => false
  | .DictComp _ _ _ _ _ => false
  | _ => true
def notTuple : Expr → Bool
  | .Tuple _ _ _ => false
  | _ => true
def cstOk : Cst → Const → Bool
  | .non, .none => true
  | .bl b, .bool c => decide (b = c)
  | .int i, .int j => decide (i = j)
  | .str x, .str y => decide (x = y)
  | _, _ => false
def ckNames (C : SC) : List Nat → List Expr → Bool
  | [], [] => true
  | i :: is, .Name x _ :: es => storeOk C i x && ckNames C is es
  | _, _ => false
def ckTg (C : SC) : Tg → Expr → Bool
  | .name i, .Name x _ => storeOk C i x
  | .names is, .Tuple es _ _ => ckNames C is es
  | _, _ => false
def isTuple : Expr → Bool
  | .Tuple _ _ _ => true
  | _ => false
def blkSC (C : SC) (scope : Scope) : SC := ⟨C.N, relS scope C.sc, fun x => scope.names.lookup x == some .cell⟩
def ownOf (C : SC) (t : Tg) : List (Str × Nat) := t.slots.filterMap fun i => (C.N[i]?).map fun x => (x, i)
def ownOf2 (C : SC) (t1 t2 : Tg) : List (Str × Nat) := (t1.slots ++ t2.slots).filterMap fun i => (C.N[i]?).map fun x => (x, i)
def ckIx (C : SC) : Ix → Expr → Bool
  | .c n, .Constant (.int m) _ _ => decide (n = m)
  | .c n, .UnaryOp .USub (.Constant (.int m) _ _) _ => decide (n = -m)
  | .v i, .Name x _ => nameOk C i x
  | .cv n i, .BinOp (.Constant (.int m) _ _) .Add (.Name x _) _ => decide (n = m) && nameOk C i x
  | _, _ => false
def ckPl (C : SC) : Pl → Expr → Bool
  | .nm i, .Name x _ => nameOk C i x
  | .sub p ix, .Subscript l r _ => notSlice r && (ckPl C p l && ckIx C ix r)
  | _, _ => false
section
variable (T : Tab)
mutual
def ckE (C : SC) : E → Expr → Bool
  | .cst c, e => match e with
    | .Constant k _ _ => cstOk c k
    | _ => false
  | .var i, e => match e with
    | .Name x _ => nameOk C i x
    | _ => false
  | .mov i, e => match e with
    | .Name x _ => nameOk C i x
    | _ => false
  | .bin op a b, e => match e with
    | .BinOp l o r _ => decide (o = astB op) && (ckE C a l && ckE C b r)
    | _ => false
  | .neg a, e => match e with
    | .UnaryOp o x _ => decide (o = .USub) && ckE C a x
    | _ => false
  | .not a, e => match e with
    | .UnaryOp o x _ => decide (o = .Not) && ckE C a x
    | _ => false
  | .and es, e => match e with
    | .BoolOp o xs _ => decide (o = .And) && ckBs C es xs
    | _ => false
  | .or es, e => match e with
    | .BoolOp o xs _ => decide (o = .Or) && ckBs C es xs
    | _ => false
  | .cmp op a b, e => match e with
    | .Compare l [o] [r] _ => decide (o = astC op) && (notSet r && (ckE C a l && ckE C b r))
    | _ => false
  | .chn op op' a b c, e => match e with
    | .Compare l [o, o'] [m, r] _ => decide (o = astC op) && (decide (o' = astC op') && (notSet r && (ckE C a l && (ckE C b m && ckE C c r))))
    | _ => false
  | .ite c a b, e => match e with
    | .IfExp t x y _ => ckE C c t && (ckE C a x && ckE C b y)
    | _ => false
  | .shr a, e => ckE C a e
  | .gti o b, e => match e with
    | .Subscript l r _ => notSlice r && (ckE C o l && ckE C b r)
    | _ => false
  | .oeq o b, e => match e with
    | .Compare l [op] [r] _ => decide (op = CmpOp.Eq) && (notSet r && (ckE C o l && ckE C b r))
    | _ => false
  | .lrg a, e => match e with
    | .Call (.Name x _) [.Call (.Name y _) [z] [] _] [] _ => decide (x = ("list" : Str)) && (glB C x && (decide (y = ("range" : Str)) && (glB C y && (noStar z && ckE C a z))))
    | _ => false
  | .plc p, e => ckPl C p e
  | .dic0, e => match e with
    | .Dict [] [] _ => true
    | _ => false
  | .bor a, e => ckE C a e
  | .comp2 elt t1 it1 t2 it2 cond, e => match e with
    | .ListComp el [⟨tg, itr, [], as⟩, ⟨tg1, itr1, ifs1, as1⟩] scope _ => decide (as = 0) && (decide (as1 = 0) && (notSet itr && (notSet itr1 && (blkC C.N C.sc scope (ownOf2 C t1 t2) && (decide ((ownOf2 C t1 t2).map (·.2) = t1.slots ++ t2.slots) &&
        (ckI C it1 itr tg && (ckTg (blkSC C scope) t1 tg && (ckI (blkSC C scope) it2 itr1 tg1 && (ckTg (blkSC C scope) t2 tg1 && (ckCs (blkSC C scope) cond ifs1 && ckE (blkSC C scope) elt el))))))))))
    | _ => false
  | .lnv i, e => match e with
    | .Call (.Name x _) [.Name y _] [] _ => decide (x = ("len" : Str)) && (glB C x && nameOk C i y)
    | _ => false
  | .lst es, e => match e with
    | .List xs _ => ckEs C es xs
    | _ => false
  | .tup es, e => match e with
    | .Tuple xs _ _ => ckEs C es xs
    | _ => false
  | .idx a b, e => match e with
    | .Subscript l r _ => notSlice r && (ckE C a l && ckE C b r)
    | _ => false
  | .idv i b, e => match e with
    | .Subscript (.Name x _) r _ => notSlice r && (nameOk C i x && ckE C b r)
    | _ => false
  | .slc a lo hi, e => match e with
    | .Subscript l (.Slice x y none _) _ => ckE C a l && (ckO C lo x && ckO C hi y)
    | _ => false
  | .call f as, e => match e with
    | .Call (.Name x _) xs [] _ => decide ((T.fns[f]?).map (·.at_) = some (x, none)) && (glB C x && ckAs C as xs)
    | _ => false
  | .meth m o as, e => match e with
    | .Call (.Attribute oe m' ap) xs [] p => decide (m' = m) && (notCall oe && ((ap.endLine == p.line) && (decide (xs.length < 30) && (ckA C o oe && ckAs C as xs))))
    | _ => false
  | .make c f as, e => match e with
    | .Call (.Name x _) xs [] _ => decide (x = c) && (decide ((T.fns[f]?).map (·.at_) = some (c, some ("__init__" : Str))) && (glB C x && ckAs C as xs))
    | _ => false
  | .blt b es, e => match e with
    | .Call (.Name x _) xs [] _ => decide (x = bltN b) && (glB C x && ckPs C es xs)
    | _ => false
  | .isi a t, e => match e with
    | .Call (.Name x _) [y, .Name n _] [] _ => match t with
      | .bi m => decide (x = ("isinstance" : Str)) && (decide (n = Str.ofString m) && (biNames.contains m && (glB C x && (glB C n && (noStar y && ckE C a y)))))
      | .own c => decide (x = ("isinstance" : Str)) && (decide (n = c) && (T.oc.contains c && (glB C x && (glB C n && (noStar y && ckE C a y)))))
    | _ => false
  | .fld a f, e => match e with
    | .Attribute l g _ => decide (g = f) && (notCall l && ckE C a l)
    | _ => false
  | .flv i f, e => match e with
    | .Attribute (.Name x _) g _ => decide (g = f) && nameOk C i x
    | _ => false
  | .comp elt t it cond, e => match e with
    | .ListComp el [⟨tg, itr, ifs, as⟩] scope _ => decide (as = 0) && (notSet itr && (blkC C.N C.sc scope (ownOf C t) && (decide ((ownOf C t).map (·.2) = t.slots) &&
        (ckI C it itr tg && (ckTg (blkSC C scope) t tg && (ckCs (blkSC C scope) cond ifs && ckE (blkSC C scope) elt el))))))
    | _ => false
def ckO (C : SC) : OE → Option Expr → Bool
  | .no, e => match e with
    | none => true
    | _ => false
  | .yes a, e => match e with
    | some x => ckE C a x
    | _ => false
def ckCs (C : SC) : OE → List Expr → Bool
  | .no, e => match e with
    | [] => true
    | _ => false
  | .yes a, e => match e with
    | [x] => ckE C a x
    | _ => false
def ckBs (C : SC) : Es → List Expr → Bool
  | .nil, _ => false
  | .star _ _, _ => false
  | .cons a es, e => match e with
    | [x] => (match es with | .nil => true | _ => false) && ckE C a x
    | x :: y :: r => ckE C a x && ckBs C es (y :: r)
    | [] => false
def ckPs (C : SC) : Es → List Expr → Bool
  | .nil, e => match e with
    | [] => true
    | _ => false
  | .star _ _, _ => false
  | .cons a es, e => match e with
    | x :: r => noStar x && (ckE C a x && ckPs C es r)
    | [] => false
def ckEs (C : SC) : Es → List Expr → Bool
  | .nil, e => match e with
    | [] => true
    | _ => false
  | .star a es, e => match e with
    | .Starred x _ :: r => ckE C a x && ckEs C es r
    | _ => false
  | .cons a es, e => match e with
    | x :: r => noStar x && (ckE C a x && ckEs C es r)
    | [] => false
def ckA (C : SC) : A → Expr → Bool
  | .val a, e => noStar e && ckE C a e
  | .ref i, e => match e with
    | .Name x _ => nameOk C i x
    | _ => false
def ckAs (C : SC) : As → List Expr → Bool
  | .nil, e => match e with
    | [] => true
    | _ => false
  | .cons a as, e => match e with
    | x :: r => ckA C a x && ckAs C as r
    | [] => false
def ckI (C : SC) : It → Expr → Expr → Bool
  | .seq a, e, _ => ckE C a e
  | .rng a, e, _ => match e with
    | .Call (.Name x _) [y] [] _ => decide (x = ("range" : Str)) && (glB C x && (noStar y && ckE C a y))
    | _ => false
  | .rng2 a b, e, _ => match e with
    | .Call (.Name x _) [y, z] [] _ => decide (x = ("range" : Str)) && (glB C x && (noStar y && (noStar z && (ckE C a y && ckE C b z))))
    | _ => false
  | .zip a b, e, tg => match e with
    | .Call (.Name x _) [y, z] [] _ => decide (x = ("zip" : Str)) && (isTuple tg && (glB C x && (noStar y && (noStar z && (ckE C a y && ckE C b z)))))
    | _ => false
  | .enum a, e, tg => match e with
    | .Call (.Name x _) [y] [] _ => decide (x = ("enumerate" : Str)) && (isTuple tg && (glB C x && (noStar y && ckE C a y)))
    | _ => false
end
def mopN : MOp → Str
  | .app => "append"
  | .clr => "clear"
  | .rev => "reverse"
  | .pop => "pop"
  | .popI => "pop"
  | .ext => "extend"
  | .ins => "insert"
/-- y = [..] -/
def compAsg (C : SC) : Expr → Expr → Bool
  | .Name y py, .ListComp _ gs scope pos => decide (gs.length = 1 ∨ gs.length = 2) && if isLoc C.sc y = true then (py.line == pos.line) && !(scope.names.any fun (n, k) => n == y && (k == .local || k == .cell)) else true
  | _, _ => false
def isCompE : E → Bool
  | .comp _ _ _ _ => true
  | _ => false
/-- a class that an exception may be asked for -/
def xName (x : Str) : Bool := (T.xt.any fun q => decide (q.1 = x)) || decide (x = ("ValueError" : Str))
def nmOk (C : SC) (sl : Option Nat) (x : Str) : Bool := match sl with
  | some i => nameOk C i x
  | none => false
mutual
def ckSE (C : SC) (sl : Option Nat) : SE → Expr → Bool
  | .cst c, e => match e with
    | .Constant k _ _ => cstOk c k
    | _ => false
  | .fld f, e => match e with
    | .Attribute (.Name x _) g _ => decide (g = f) && (nmOk C sl x && T.xi.any fun q => decide (q.2 = f))
    | _ => false
  | .isx c, e => match e with
    | .Call (.Name f _) [.Name x _, .Name y _] [] _ => decide (f = ("isinstance" : Str)) && (glB C f && (nmOk C sl x && (decide (y = c) && (glB C y && xName T y))))
    | _ => false
  | .tup es, e => match e with
    | .Tuple xs _ _ => ckSEs C sl es xs
    | _ => false
  | .and a b, e => match e with
    | .BoolOp o [x, y] _ => decide (o = .And) && (ckSE C sl a x && ckSE C sl b y)
    | _ => false
  | .isint f a, e => match e with
    | .Call (.Name x _) [y] [] _ => T.isn.contains f && (decide ((T.fns[f]?).map (·.at_) = some (x, none)) && (glB C x && (noStar y && ckSE C sl a y)))
    | _ => false
def ckSEs (C : SC) (sl : Option Nat) : SEs → List Expr → Bool
  | .nil, e => match e with
    | [] => true
    | _ => false
  | .cons a es, e => match e with
    | x :: r => noStar x && (ckSE C sl a x && ckSEs C sl es r)
    | [] => false
end
def ckSS (io : List Nat) (C : SC) (sl : Option Nat) : SS → Stmt → Bool
  | .set i e, s => match s with
    | .Assign [.Name x _] v _ => storeOk C i x && (!(io.contains i) && (notComp v && (!(decide (sl = some i)) && ckSE T C sl e v)))
    | _ => false
  | .ret e, s => match s with
    | .Return (some v) _ => ckSE T C sl e v
    | _ => false
def slB (io : List Nat) (C : SC) : Option Str → Option Nat → Bool
  | none, none => true
  | some n, some i => decide (C.N[i]? = some n) && (isLoc C.sc n && !(io.contains i))
  | _, _ => false
def ckHd (io : List Nat) (C : SC) (h : Hd) : ExceptHandler → Bool
  | .ExceptHandler (some (.Name x _)) nm [st] _ => decide (x = h.c) && (glB C x && (slB io C nm h.sl && (ckSS T io C h.sl h.s st && T.xt.any fun q => decide (q.1 = x))))
  | _ => false
def ckHds (io : List Nat) (C : SC) : List Hd → List ExceptHandler → Bool
  | [], [] => true
  | h :: hs, e :: es => ckHd T io C h e && ckHds io C hs es
  | _, _ => false
def ckMay (io : List Nat) (C : SC) (e : E) : May → Stmt → Bool
  | .set t, s => match s with
    | .Assign [tg] v p => t.slots.all (fun i => !(io.contains i)) && (ckTg C t tg && (ckE T C e v && (notComp v && (notTuple tg || notTuple v))))
    | _ => false
  | .ex, s => match s with
    | .Expr v _ => notComp v && ckE T C e v
    | _ => false
  | .ret, s => match s with
    | .Return (some v) _ => ckE T C e v
    | _ => false
/-- x, y = a, b is stored from the right -/
def parOk (x : Str) (px : Pos) (y : Str) (py : Pos) (a b : Expr) : Bool := !(x == y) && ((py.line == px.line) && (!([a, b].all (foldedForSure 8)) && !([a, b].all (constantsAlone 8))))
mutual
def ckS (io : List Nat) (C : SC) : S → Stmt → Bool
  | .set t e, s => match s with
    | .Assign [tg] v p => t.slots.all (fun i => !(io.contains i)) && (ckTg C t tg && (ckE T C e v && ((notComp v && (notTuple tg || notTuple v)) || compAsg C tg v)))
    | _ => false
  | .setI i b e, s => match s with
    | .Assign [.Subscript (.Name x _) r _] v _ => nameOk C i x && (notSlice r && (ckE T C b r && ckE T C e v))
    | _ => false
  | .setF i f e, s => match s with
    | .Assign [.Attribute (.Name x _) g _] v _ => nameOk C i x && (decide (g = f) && ckE T C e v)
    | _ => false
  | .aug i op e, s => match s with
    | .AugAssign (.Name x _) o v _ => storeOk C i x && (!(io.contains i) && (((decide (op = .add) && decide (o = .Add)) || (decide (op = .sub) && decide (o = .Sub))) && ckE T C e v))
    | _ => false
  | .app i e, s => match s with
    | .Expr (.Call (.Attribute (.Name x _) m ap) [v] [] cp) _ => nameOk C i x && (decide (m = ("append" : Str)) && ((ap.endLine == cp.line) && (noStar v && ckE T C e v)))
    | _ => false
  | .ex e, s => match s with
    | .Expr v _ => notComp v && ckE T C e v
    | _ => false
  | .ite c a b, s => match s with
    | .If t x y _ => ckE T C c t && (ckSs io C a x && ckSs io C b y)
    | _ => false
  | .loop t it b, s => match s with
    | .For tg itr body [] _ => t.slots.all (fun i => !(io.contains i)) && (notSet itr && (ckI T C it itr tg && (ckTg C t tg && ckSs io C b body)))
    | _ => false
  | .whl c b, s => match s with
    | .While t body [] _ => ckE T C c t && ckSs io C b body
    | _ => false
  | .ret e, s => match s with
    | .Return (some v) _ => ckE T C e v
    | _ => false
  | .retN, s => match s with
    | .Return none _ => true
    | _ => false
  | .brk, s => match s with
    | .Break _ => true
    | _ => false
  | .cnt, s => match s with
    | .Continue _ => true
    | _ => false
  | .pass, s => match s with
    | .Pass _ => true
    | _ => false
  | .nev, _ => true
  | .setP p ix e, s => match s with
    | .Assign [.Subscript o r _] v _ => notSlice r && (ckPl C p o && (ckIx C ix r && ckE T C e v))
    | _ => false
  | .mutP p op es, s => match s with
    | .Expr (.Call (.Attribute o m ap) xs [] cp) _ => decide (m = mopN op) && (mopOk op && ((ap.endLine == cp.line) && (decide (xs.length < 30) && (notCall o && (ckPl C p o && ckPs T C es xs)))))
    | _ => false
  | .par is es, s => match is with
    | [i, j] => match s with
      | .Assign [.Tuple [.Name x px, .Name y py] kt pt] (.Tuple [a, b] k2 p2) _ => storeOk C i x && (storeOk C j y && (isLoc C.sc x && (isLoc C.sc y && (decide (i ≠ j) && (!(io.contains i) && (!(io.contains j) && (parOk x px y py a b && ckPs T C es [a, b])))))))
      | _ => false
    | _ => false
  | .setS i a b e, s => match s with
    | .Assign [.Subscript (.Name x _) (.Slice (some ra) (some rb) none _) _] v _ => nameOk C i x && (ckE T C a ra && (ckE T C b rb && ckE T C e v))
    | _ => false
  | .swp i j a b e, s => match s with
    | .Assign [.Tuple [.Subscript (.Name x _) ra _, .Subscript (.Name y _) rb _] _ _] v _ => nameOk C i x && (nameOk C j y && (notSlice ra && (notSlice rb && (ckE T C a ra && (ckE T C b rb && (ckE T C e v && notComp v))))))
    | _ => false
  | .bor is a, s => is.all (fun i => !(io.contains i)) && ckS (ioB C.N.length is) C a s
  | .may k e, s => ckMay T io C e k s
  | .rse0 c, s => match s with
    | .Raise (some (.Call (.Name x _) [] [] _)) none _ => decide (x = c) && (glB C x && ((T.xt.any fun q => decide (q.1 = x)) && !(T.xi.any fun q => decide (q.1 = x))))
    | _ => false
  | .rse1 c f e, s => match s with
    | .Raise (some (.Call (.Name x _) [y] [] _)) none _ => decide (x = c) && (glB C x && ((T.xi.any fun q => decide (q = (x, f))) && (noStar y && ckE T C e y)))
    | _ => false
  | .try_ b hs, s => match s with
    | .Try body (h0 :: hds) [] [] _ => ckSs io C b body && ckHds T io C hs (h0 :: hds)
    | _ => false
  | .mutN i op es, s => match s with
    | .Expr (.Call (.Attribute (.Name x _) m ap) xs [] cp) _ => nameOk C i x && (decide (m = mopN op) && (mopOk op && ((ap.endLine == cp.line) && (decide (xs.length < 30) && (decide (0 < xs.length) && ckPs T C es xs)))))
    | _ => false
  | .loopO t b body, s => match s with
    | .For (.Name y _) (.Name x _) bd [] _ => storeOk C t y && (nameOk C b x && (!(io.contains t) && (decide (t ≠ b) && ckSs (t :: b :: io) C body bd)))
    | _ => false
def ckSs (io : List Nat) (C : SC) : Ss → List Stmt → Bool
  | .nil, s => match s with
    | [] => true
    | _ => false
  | .cons a as, s => match s with
    | x :: r => ckS io C a x && ckSs io C as r
    | [] => false
  | .alt a b, s => ckSs io C a s && ckSs io C b s
  | .ali i p body rest, s => match s with
    | .Assign [.Name x _] v _ :: r => storeOk C i x && (!(io.contains i) && (decide (i ≠ p.base) && (notComp v && (ckPl C p v && (ckSs (i :: p.base :: io) C body (r.take body.cnt) && ckSs io C rest (r.drop body.cnt))))))
    | _ => false
end
end
/-! ### what the checks say -/
theorem ba2 {a b : Bool} (h : (a && b) = true) : a = true ∧ b = true := Bool.and_eq_true_iff.mp h
theorem visB_ok {sc : Scope} {x : Str} (h : visB sc x = true) : Vis sc x := by
  unfold visB at h
  split at h
  · exact .inl (by assumption)
  · exact .inr (.inl (by assumption))
  · exact .inr (.inr (by assumption))
  · cases h
theorem locB_ok {sc : Scope} {x : Str} (h : locB sc x = true) : Loc sc x := by
  unfold locB at h
  split at h
  · exact .inl (by assumption)
  · exact .inr (by assumption)
  · cases h
theorem plainN_ok {x : Str} (h : plainN x = true) : (x == ("__debug__" : Str)) = false ∧ (x == ("__classdict__" : Str)) = false := by
  unfold plainN at h
  simpa using h
/-- what stands around: the context of the checker is the context of the machine -/
structure XC0 (C : SC) (X : Cx) : Prop where
  hN : X.N = C.N
  sc : X.env.scope = C.sc
  fn : X.fn = C.fn
  nd : X.N.Nodup
structure XC (C : SC) (X : Cx) : Prop extends XC0 C X where
  calm : X.calm = true
section
variable {X : Cx} {C : SC}
theorem XC0.var (c : XC0 C X) {i : Nat} {x : Str} {p : Pos} (h : nameOk C i x = true) : PE X (.Name x p) (tVar i) := by
  obtain ⟨h1, h2⟩ := ba2 h
  obtain ⟨h2, h3⟩ := ba2 h2
  obtain ⟨h4, h5⟩ := plainN_ok h3
  exact pe_var (by rw [c.hN]; exact of_decide_eq_true h1) (by rw [c.sc]; exact visB_ok h2) h4 h5
theorem XC0.gl (c : XC0 C X) {x : Str} (h : glB C x = true) : Gl X x ∧ (x == ("__debug__" : Str)) = false := by
  obtain ⟨h1, h2⟩ := ba2 h
  refine ⟨?_, (plainN_ok h2).1⟩
  show X.env.scope.names.lookup x = _
  rw [c.sc]; exact of_decide_eq_true h1
theorem XC0.store (c : XC0 C X) {i : Nat} {x : Str} {p : Pos} (h : storeOk C i x = true) : PG X (.Name x p) (gName i) := by
  obtain ⟨h1, h2⟩ := ba2 h
  obtain ⟨h2, h3⟩ := ba2 h2
  refine pg_name c.nd (by rw [c.hN]; exact of_decide_eq_true h1) (by rw [c.sc]; exact locB_ok h2) ?_
  rcases Bool.or_eq_true_iff.mp h3 with h | h
  · exact .inl (by rw [c.fn]; exact h)
  · exact .inr (by rw [c.sc]; exact of_decide_eq_true h)
theorem XC0.ix (c : XC0 C X) {ix : Ix} {e : Expr} (h : ckIx C ix e = true) : PE X e (tIx X.K ix) := by
  unfold ckIx at h
  split at h
  · have e1 := of_decide_eq_true h
    subst e1
    exact pe_imp pe_int fun σ H Q ⟨Gf, N, ts, ρ, hl, hs, n, e, q⟩ => by cases e; exact q
  · have e1 := of_decide_eq_true h
    subst e1
    exact pe_imp (pe_un un_neg pe_int) fun σ H Q ⟨Gf, N, ts, ρ, hl, hs, n, e, q⟩ => by cases e; exact ⟨_, rfl, q⟩
  · exact pe_imp (c.var h) fun σ H Q ⟨Gf, N, ts, ρ, hl, hs, n, e, q⟩ => ⟨_, hs.slotI hl e, q⟩
  · obtain ⟨h1, h2⟩ := ba2 h
    have e1 := of_decide_eq_true h1
    subst e1
    refine pe_imp (pe_op op_add pe_int (c.var h2)) fun σ H Q ⟨Gf, N, ts, ρ, hl, hs, n, e, q⟩ => ?_
    obtain ⟨k, e2, rfl⟩ := mpd e
    exact ⟨_, hs.slotI hl e2, _, _, rfl, rfl, q⟩
  · cases h
theorem star_no {e : Expr} {es : List Expr} {env : PySem.Env} (h : noStar e = true) : starEach (e :: es) env = (false, eval e env) :: starEach es env := by
  cases e <;> first | rfl | cases h
theorem any_no : ∀ {es : List Expr} {env : PySem.Env} {pos : Pos}, es.all noStar = true → (backTo pos (starEach es env)).any (·.1) = false
  | [], _, _, _ => rfl
  | e :: es, env, pos, h => by
    rw [List.all_cons, Bool.and_eq_true] at h
    rw [star_no h.1]
    show (false || _) = false
    rw [Bool.false_or]
    exact any_no h.2
theorem all_no : ∀ {es : List Expr} {env : PySem.Env} {pos : Pos}, es.all noStar = true → (backTo pos (starEach es env)).all (fun x => !x.1) = true
  | [], _, _, _ => rfl
  | e :: es, env, pos, h => by
    rw [List.all_cons, Bool.and_eq_true] at h
    rw [star_no h.1]
    show (true && _) = true
    rw [Bool.true_and]
    exact all_no h.2
theorem plainIx_of {b : Expr} (h : notSlice b = true) : PlainIx b := by
  intro o i
  cases b <;> first | rfl | cases h
theorem XC0.pl (c : XC0 C X) : ∀ {p : Pl} {e : Expr}, ckPl C p e = true → PE X e (tPl X.K p)
  | .nm i, e, h => by
    cases e <;> simp only [ckPl, Bool.false_eq_true] at h
    exact pe_nm (c.var h)
  | .sub p ix, e, h => by
    cases e <;> simp only [ckPl, Bool.false_eq_true] at h
    obtain ⟨h1, h2⟩ := ba2 h
    obtain ⟨h2, h3⟩ := ba2 h2
    exact pe_subP (c.pl h2) (c.ix h3) (plainIx_of h1)
theorem base_of {o : Expr} {m : Str} {env : PySem.Env} (h : notCall o = true) : attributeBase o m env (eval o env) = eval o env := by
  cases o <;> first | rfl | cases h
theorem nomark_of {op : CmpOp} {r : Expr} (h : notSet r = true) : behindInMarks op r = false := by
  cases r <;> first | rfl | cases h
theorem folded_of {e : Expr} (h : notSet e = true) : ∀ (env : PySem.Env) (x : Value), foldedSetIterable e env x = pure x := by
  intro env x
  cases e <;> first | rfl | cases h
theorem swaps_of {e : Expr} {t : Option Expr} {l : Nat} {env : PySem.Env} (h : notComp e = true) : swapsWith e t l env = pure false := by
  cases e <;> first | rfl | cases h
theorem mth_eq {o : Expr} {m : Str} {apos pos : Pos} {env : PySem.Env} {args : List Expr} (hb : attributeBase o m env (eval o env) = eval o env) (ha : args.all noStar = true) (hn : args.length < 30) (hl : (apos.endLine == pos.line) = true) :
    eval (.Call (.Attribute o m apos) args [] pos) env = (do
      let ov ← eval o env
      standAt apos.atName
      let (f, first) ← holding [ov] (getMethod ov m (plainOf o env))
      callWith pos f first (backTo pos (starEach args env)) (backToKw pos (keywordEach [] env))) := by
  have hf : methodCallForm (args.length + ([] : List Keyword).length) (backTo pos (starEach args env)) (backToKw pos (keywordEach [] env)) = true := by
    unfold methodCallForm
    rw [all_no ha]
    show (true && (true && decide (args.length + 0 + 0 < 30))) = true
    rw [Bool.true_and, Bool.true_and]
    exact decide_eq_true hn
  show (do
    let ov ← attributeBase o m env (eval o env)
    standAt apos.atName
    methodCall o m apos pos env ov (args.length + ([] : List Keyword).length) (backTo pos (starEach args env)) (backToKw pos (keywordEach [] env))) = _
  rw [hb]
  congr 1
  funext ov
  congr 1
  funext _
  exact mcall_line hf hl
end
end FL

/-! F14: what is checked is so: expressions. -/
namespace FL
open PySem PySem.Spec PyProof.Rows L2 StX
def intV : V → Option Bool
  | .int _ => some true
  | .bl _ => some false
  | .str _ => some false
  | .non => some false
  | _ => none
/-- what a body knows of the program: the defs it may call keep their promises -/
structure XP (T : Tab) (Φ : Fs × Fx) (k : Nat) (X : Cx) : Prop where
  room : Room (k + 1) X.A
  cls : ClsOk X.K T.cs
  fns : ∀ (f : Nat) (fn : Fn), T.fns[f]? = some fn → ∃ fd, FnOk X.prog X.w X.K X.mg X.base (L2N.CX X.prog X.w) k (He.fAd X.K fn.at_) fd fn.ps (spOf X.K fn.ps.length (Φ.1 f) (Φ.2 f)) ∧ Binds X.K fd fn.ps [] ∧ PySem.W.keepIn X.K (.ref (He.fAd X.K fn.at_)) = true
  fin : ∀ (f : Nat) (fn : Fn), T.fns[f]? = some fn → PySem.W.fnIn X.K (He.fAd X.K fn.at_) = true
  ar : ∀ f ds r, Φ.1 f ds = some r → ∃ fn : Fn, T.fns[f]? = some fn ∧ ds.length = fn.ps.length
  arX : ∀ f ds r, Φ.2 f ds = some r → ∃ fn : Fn, T.fns[f]? = some fn ∧ ds.length = fn.ps.length
  glo : ∀ (f : Nat) (fn : Fn), T.fns[f]? = some fn → fn.at_.2 = none → X.mg fn.at_.1 = some (.ref (He.ga X.K fn.at_.1))
  mth : ∀ (c m : Str) (f : Nat), ((c, m), f) ∈ T.ms → ∃ fn : Fn, T.fns[f]? = some fn ∧ fn.at_ = (c, some m) ∧ Meth X.K (He.ga X.K c) m (He.ma X.K (He.ga X.K c) m) ∧ Cls X.K (He.ga X.K c)
  mak : ∀ (f : Nat) (fn : Fn) (c : Str), T.fns[f]? = some fn → fn.at_ = (c, some ("__init__" : Str)) → Mk X.K (He.ga X.K c) (He.ma X.K (He.ga X.K c) "__init__") ∧ X.mg c = some (.ref (He.ga X.K c))
  xg : ∀ q ∈ T.xt, X.mg q.1 = some (.ref (He.ga X.K q.1)) ∧ FX.XFacts X.K (He.ga X.K q.1)
  x0 : ∀ q ∈ T.xt, (∀ r ∈ T.xi, r.1 ≠ q.1) → PySem.W.excIn X.K (He.ga X.K q.1) He.veBase "ValueError.__new__" = true ∧ PySem.W.keepIn X.K (.ref (He.ga X.K q.1)) = true ∧ Raises X (.ref (He.ga X.K q.1))
  x1 : ∀ q ∈ T.xi, X.mg q.1 = some (.ref (He.ga X.K q.1)) ∧ OexC X.K (He.ga X.K q.1) ∧ ∃ fI fd ps, PySem.W.findIn X.K (.ref (He.ga X.K q.1)) "__init__" = some (some (.ref fI)) ∧ PySem.W.typeIn X.K (.ref fI) = some (.type "function") ∧ Binds X.K fd ps [] ∧ FnOk X.prog X.w X.K X.mg X.base (L2N.CX X.prog X.w) k fI fd ps (FX.spXI (He.ga X.K q.1) q.2)
  xe : ∀ q ∈ T.xt, ∀ r ∈ T.xt, PySem.W.exmOne X.K (.ref (He.ga X.K q.1)) (.ref (He.ga X.K r.1)) = some (q.2.contains r.1)
  xk : ∀ q ∈ T.xt, (∀ r ∈ T.xt, PySem.W.kitOne X.K (.ref (He.ga X.K q.1)) (.ref (He.ga X.K r.1)) = some (q.2.contains r.1)) ∧ PySem.W.kitOne X.K (.ref (He.ga X.K q.1)) (.type "ValueError") = some (q.2.contains ("ValueError" : Str))
  xn : ∀ q ∈ T.xt, ∀ r ∈ T.xi, PySem.W.findIn X.K (.ref (He.ga X.K q.1)) r.2 = some none
  xv : X.mg "ValueError" = none
  oc : ∀ c ∈ T.oc, X.mg c = some (.ref (He.ga X.K c)) ∧ OcOk X.K (He.ga X.K c)
  eqc : ∀ c f, ((c, Str.ofString "__eq__"), f) ∈ T.ms → c ∈ T.oc
  free : ∀ x ∈ (["len", "int", "list", "tuple", "sum", "abs", "min", "max", "all", "any", "range", "zip", "enumerate", "isinstance", "bool", "str", "dict"] : List Str), X.mg x = none
theorem XP.blk {T : Tab} {Φ : Fs × Fx} {k : Nat} {X : Cx} (p : XP T Φ k X) (s : Shared) (H : Hp) (scope : Scope) (cenv : PySem.Env) (fp : List Addr) : XP T Φ k (X.blk s H scope cenv fp) := ⟨p.room, p.cls, p.fns, p.fin, p.ar, p.arX, p.glo, p.mth, p.mak, p.xg, p.x0, p.x1, p.xe, p.xk, p.xn, p.xv, p.oc, p.eqc, p.free⟩
theorem XC.blk {C : SC} {X : Cx} (c : XC C X) (s : Shared) (H : Hp) (scope : Scope) (D : Addr) (cl : List (Str × Addr)) (fp : List Addr) : XC (blkSC C scope) (X.blk s H scope (compEnvC scope cl D X.env) fp) :=
  ⟨⟨c.hN, by show relS scope X.env.scope = relS scope C.sc; rw [c.sc], rfl, c.nd⟩, c.calm⟩
def arOf (T : Tab) (f : Nat) : Nat := ((T.fns[f]?).map fun fn => fn.ps.length).getD 0
theorem XP.arity {T : Tab} {Φ : Fs × Fx} {k : Nat} {X : Cx} (p : XP T Φ k X) {f : Nat} {ds : List D} {r : D × List (Option D)} (h : Φ.1 f ds = some r) : ds.length = arOf T f := by
  obtain ⟨fn, e1, e2⟩ := p.ar f ds r h
  unfold arOf
  rw [e1]; exact e2
theorem XP.arityX {T : Tab} {Φ : Fs × Fx} {k : Nat} {X : Cx} (p : XP T Φ k X) {f : Nat} {ds : List D} {r : Exn × List (Option D)} (h : Φ.2 f ds = some r) : ds.length = arOf T f := by
  obtain ⟨fn, e1, e2⟩ := p.arX f ds r h
  unfold arOf
  rw [e1]; exact e2
theorem XP.hu {T : Tab} {Φ : Fs × Fx} {k : Nat} {X : Cx} (p : XP T Φ k X) : X.A.units + 65 < cLine := by have := p.room.un; omega
theorem noStar_of {T : Tab} {C : SC} {a : A} {e : Expr} (h : ckA T C a e = true) : noStar e = true := by
  cases a with
  | val x => simp only [ckA] at h; exact (ba2 h).1
  | ref i =>
    simp only [ckA] at h
    split at h
    · rfl
    · cases h
theorem ckAs_all {T : Tab} {C : SC} : ∀ {as : As} {es : List Expr}, ckAs T C as es = true → es.all noStar = true
  | .nil, [], _ => rfl
  | .nil, _ :: _, h => by simp [ckAs] at h
  | .cons _ _, [], h => by simp [ckAs] at h
  | .cons a as, e :: es, h => by
    simp only [ckAs] at h
    obtain ⟨h1, h2⟩ := ba2 h
    rw [List.all_cons, noStar_of h1, ckAs_all (as := as) h2]; rfl
theorem ckPs_all {T : Tab} {C : SC} : ∀ {as : Es} {es : List Expr}, ckPs T C as es = true → es.all noStar = true
  | .nil, [], _ => rfl
  | .nil, _ :: _, h => by simp [ckPs] at h
  | .star _ _, _, h => by simp [ckPs] at h
  | .cons _ _, [], h => by simp [ckPs] at h
  | .cons a as, e :: es, h => by
    simp only [ckPs] at h
    obtain ⟨h1, h2⟩ := ba2 h
    obtain ⟨h2, h3⟩ := ba2 h2
    rw [List.all_cons, h1, ckPs_all (as := as) h3]; rfl
/-- PX and, as a test, PXT -/
structure PXB2 (X : Cx) (e : Expr) (ev : Env → Option (D × Env)) : Prop where
  px : PX X e ev
  pxt : PXT X e (asT ev)
theorem PXB2.cg {X : Cx} {e : Expr} {ev ev' : Env → Option (D × Env)} (h : PXB2 X e ev) (f : ∀ ρ, ev' ρ = ev ρ) : PXB2 X e ev' := by
  have : ev' = ev := funext f
  rw [this]; exact h
/-- an expression that is tested by its value -/
theorem both_val {X : Cx} {e : Expr} {ev : Env → Option (D × Env)} (h : PX X e ev) (he : ∀ whole, isTrue e X.env whole = (do let v ← whole; standAt e.pos; holding [v] (truthy v)) := by intro _; rfl) : PXB2 X e ev :=
  ⟨h, ⟨pt_imp (pt_val h.pe he) fun σ H Q q => tIT_of q, Ln.asT h.ln⟩⟩
theorem pgs_of {C : SC} {X : Cx} (c : XC C X) : ∀ {is : List Nat} {es : List Expr}, ckNames C is es = true → PGs X es (gNames is) ∧ (assignEach es X.env).length = is.length ∧ (assignEach es X.env).findIdx? (·.1) = none
  | [], [], _ => ⟨pgs_nil, rfl, rfl⟩
  | [], _ :: _, h => by simp [ckNames] at h
  | _ :: _, [], h => by simp [ckNames] at h
  | i :: is, e :: es, h => by
    cases e <;> simp only [ckNames, Bool.false_eq_true] at h
    rename_i x p
    obtain ⟨h1, h2⟩ := ba2 h
    obtain ⟨p1, p2, p3⟩ := pgs_of c h2
    refine ⟨pgs_cons (c.store h1) p1, ?_, ?_⟩
    · show (assignEach es X.env).length + 1 = _
      rw [p2]; rfl
    · show List.findIdx? _ ((false, _) :: assignEach es X.env) = none
      rw [List.findIdx?_cons]
      simp [p3]
theorem pg_of {C : SC} {X : Cx} (c : XC C X) {t : Tg} {e : Expr} (h : ckTg C t e = true) : PG X e (gT X.K t) := by
  cases t with
  | name i =>
    cases e <;> simp only [ckTg, Bool.false_eq_true] at h
    exact c.store h
  | names is =>
    cases e <;> simp only [ckTg, Bool.false_eq_true] at h
    obtain ⟨p1, p2, p3⟩ := pgs_of c h
    have g1 := pg_tup (pos := ‹Pos›) (k := ‹Nat›) c.calm p1 p2 p3
    have g2 := pg_unl (pos := ‹Pos›) (k := ‹Nat›) c.calm p1 p2 p3
    exact ⟨fun pins s σ H v u Q I r hw => hw.elim (fun z => g1.run pins s σ H v u Q I r z) fun z => g2.run pins s σ H v u Q I r z⟩
section
variable {T : Tab} {Φ : Fs × Fx} {k : Nat}
/-- what a checked comprehension consists of -/
structure CompOk (X : Cx) (elt : Env → Option (D × Env)) (t : Tg) (it : Env → Option (List D × Env)) (cond : Env → Option (Bool × Env)) (el tg itr : Expr) (ifs : List Expr) (scope : Scope) (own : List (Str × Nat)) : Prop where
  sl : own.map (·.2) = t.slots
  ok : BlkOk X.N X.env.scope scope own
  i : PXI X tg itr it
  g : ∀ (s : Shared) (H : Hp) (C : Addr) (cl : List (Str × Addr)) (fp : List Addr), PG (X.blk s H scope (compEnvC scope cl C X.env) fp) tg (gT X.K t)
  t : ∀ (s : Shared) (H : Hp) (C : Addr) (cl : List (Str × Addr)) (fp : List Addr), PTs (X.blk s H scope (compEnvC scope cl C X.env) fp) ifs (tIT X.K cond)
  e : ∀ (s : Shared) (H : Hp) (C : Addr) (cl : List (Str × Addr)) (fp : List Addr), PE (X.blk s H scope (compEnvC scope cl C X.env) fp) el (tI X.K elt)
  lt : Ln cond
  le : Ln elt
  st : notSet itr = true
theorem CompOk.px {X : Cx} (hc : X.calm = true) (hN : X.N.Nodup) {elt : Env → Option (D × Env)} {t : Tg} {it : Env → Option (List D × Env)} {cond : Env → Option (Bool × Env)} {el tg itr : Expr} {ifs : List Expr} {scope : Scope} {own : List (Str × Nat)} {pos : Pos} (h : CompOk X elt t it cond el tg itr ifs scope own) :
    PX X (.ListComp el [⟨tg, itr, ifs, 0⟩] scope pos) (compE t it cond elt) := by
  refine ⟨pe_imp (pe_lc (own := own) hc hN h.i.pi h.ok h.g h.t h.e (folded_of h.st X.env)) fun σ H Q q => ?_, compE_ln h.i.ln h.lt h.le⟩
  rw [h.sl]
  exact tI_comp h.i.ln h.lt h.le q
end
end FL

/-! F15: what is checked is so: expressions, all together. -/
namespace FL
open PySem PySem.Spec PyProof.Rows L2 StX
variable {T : Tab} {Φ : Fs × Fx} {k : Nat}
abbrev Gam (T : Tab) (Φ : Fs × Fx) : Ctx := ⟨Φ.1, Φ.2, T.cs, T.ms, T.xt⟩
theorem tArg_nil {K : PySem.W.Frag} {σ : L2.St} {H : Hp} {Q : List V → Hp → Prop} (h : tArg K .nil (fun ρ => some ([], ρ)) σ H Q) : tNil σ H Q := by
  obtain ⟨Gf, N, ts, ρ, hl, hs, p, e, q⟩ := h
  cases e
  exact q [] _ trivial hs
def NilOk (es : List Expr) (as : As) (er : Env → Option (List (Option D) × Env)) : Prop := es = [] → as = .nil ∧ er = fun ρ => some ([], ρ)
theorem passN {X : Cx} : Passes (L2N.CX X.prog X.w) X E0 := fun _ _ _ _ _ _ _ h => by
  obtain ⟨_, _, _, _, _, _, _, _, _, _, _, _, z⟩ := h
  exact z.elim
theorem call_fn {X : Cx} {C : SC} (p : XP T Φ k X) (c : XC C X) {f : Nat} {x : Str} {es : List Expr} {as : As} {er : Env → Option (List (Option D) × Env)} {q pos : Pos} (hf : (T.fns[f]?).map (·.at_) = some (x, none)) (hg : glB C x = true) (hs : es.all noStar = true) (ha : PXG X es as er) (hn0 : NilOk es as er) :
    PX X (.Call (.Name x q) es [] pos) (callE (Φ.1 f) as er) := by
  obtain ⟨fn, e1, e2⟩ := mpd hf
  obtain ⟨fd, F, B, kp⟩ := p.fns f fn e1
  have ea : He.fAd X.K fn.at_ = He.ga X.K x := by rw [e2]; rfl
  rw [ea] at F kp
  have hm := p.glo f fn e1 (by rw [e2])
  rw [e2] at hm
  have hm : X.mg x = some (.ref (He.ga X.K x)) := hm
  obtain ⟨g1, g2⟩ := c.gl hg
  have hn : ∀ ds r, Φ.1 f ds = some r → ds.length = fn.ps.length := fun ds r h => by
    obtain ⟨fn', e3, e4⟩ := p.ar f ds r h
    rw [e1] at e3; cases e3; exact e4
  have hr : Room k X.A := p.room.mono (Nat.le_succ _)
  cases es with
  | nil =>
    obtain ⟨rfl, rfl⟩ := hn0 rfl
    exact px_callF (ψ := Φ.2 f) (E := E0) hn ha (pe_imp (pe_call0 (E := E0) F hr g1 hm kp B .nil passN g2) fun σ H Q q => tArg_nil q)
  | cons e es =>
    rw [List.all_cons, Bool.and_eq_true] at hs
    exact px_callF (ψ := Φ.2 f) (E := E0) hn ha (pe_call F hr g1 hm kp B .nil passN ha.pa g2 (star_no hs.1) (any_no hs.2))
theorem call_mk {X : Cx} {C : SC} (p : XP T Φ k X) (c : XC C X) {f : Nat} {x : Str} {es : List Expr} {as : As} {er : Env → Option (List (Option D) × Env)} {q pos : Pos} (hf : (T.fns[f]?).map (·.at_) = some (x, some ("__init__" : Str))) (hg : glB C x = true) (hs : es.all noStar = true) (ha : PXG X es as er) (hn0 : NilOk es as er) :
    PX X (.Call (.Name x q) es [] pos) (makeE (Φ.1 f) x as er) := by
  obtain ⟨fn, e1, e2⟩ := mpd hf
  obtain ⟨fd, F, B, kp⟩ := p.fns f fn e1
  obtain ⟨M, hm⟩ := p.mak f fn x e1 e2
  have ea : He.fAd X.K fn.at_ = He.ma X.K (He.ga X.K x) "__init__" := by rw [e2]; rfl
  rw [ea] at F
  obtain ⟨g1, g2⟩ := c.gl hg
  have hn : ∀ ds r, Φ.1 f ds = some r → ds.length = fn.ps.length := fun ds r h => by
    obtain ⟨fn', e3, e4⟩ := p.ar f ds r h
    rw [e1] at e3; cases e3; exact e4
  cases es with
  | nil =>
    obtain ⟨rfl, rfl⟩ := hn0 rfl
    exact px_make (ψ := Φ.2 f) (E := E0) hn ha (pe_imp (pe_make0 (E := E0) M F p.room g1 hm B .nil passN g2) fun σ H Q q => tArg_nil q)
  | cons e es =>
    rw [List.all_cons, Bool.and_eq_true] at hs
    exact px_make (ψ := Φ.2 f) (E := E0) hn ha (pe_make M F p.room g1 hm B .nil passN ha.pa g2 (star_no hs.1) (any_no hs.2))
theorem call_mt {X : Cx} {C : SC} (p : XP T Φ k X) (c : XC C X) {m : Str} {oe : Expr} {o : A} {ex : Env → Option (Option D × Env)} {es : List Expr} {as : As} {er : Env → Option (List (Option D) × Env)} {ap pos : Pos} (hb : notCall oe = true) (hl : (ap.endLine == pos.line) = true) (h30 : es.length < 30) (hs : es.all noStar = true)
    (ho : PX1 X oe o ex) (ha : PXG X es as er) (hn0 : NilOk es as er) : PX X (.Call (.Attribute oe m ap) es [] pos) (methE Φ.1 T.ms m o as ex er) := by
  refine px_meth (Ψ := Φ.2) (E := E0) (ar := arOf T) (fun f ds r h => p.arity h) ho ha fun cl f hmem => ?_
  obtain ⟨fn, e1, e2, M, Cl⟩ := p.mth cl m f hmem
  obtain ⟨fd, F, B, kp⟩ := p.fns f fn e1
  have ea : He.fAd X.K fn.at_ = He.ma X.K (He.ga X.K cl) m := by rw [e2]; rfl
  rw [ea] at F
  have en : fn.ps.length = arOf T f := by unfold arOf; rw [e1]; rfl
  rw [en] at F
  have hr : Room k X.A := p.room.mono (Nat.le_succ _)
  cases es with
  | nil =>
    obtain ⟨rfl, rfl⟩ := hn0 rfl
    refine pe_imp (pe_meth0 (E := E0) (pl := plainOf oe X.env) ho.pe Cl M F hr B .nil passN (mth_eq (base_of hb) rfl h30 hl)) fun σ H Q q => ?_
    obtain ⟨Gf, N, ts, ρ, hl, hs, p, e, q⟩ := q
    refine ⟨Gf, N, ts, ρ, hl, hs, p, e, fun v H' r h' => ?_⟩
    obtain ⟨a, dx, fs, z1, z2, z3, z4⟩ := q v H' r h'
    exact ⟨a, dx, fs, z1, z2, z3, tArg_nil z4⟩
  | cons e es =>
    have hs' := hs
    rw [List.all_cons, Bool.and_eq_true] at hs
    exact pe_meth (E := E0) (pl := plainOf oe X.env) ho.pe Cl M F hr B .nil passN ha.pa (star_no hs.1) (any_no hs.2) (mth_eq (base_of hb) hs' h30 hl)
theorem subsc_of {r : Expr} (h : notSlice r = true) : ∀ (x : Addr) (i : Value), subscripted r true (.ref x) i = runValue (.builtin "lifetime.subscript" ⟨[.ref x, i], []⟩) := fun x i => by
  cases r <;> first | rfl | cases h
theorem gti_pe {X : Cx} {E : L2.St → XK} (p : XP T Φ k X) (hx : ∀ σ, PassesAt (L2N.CX X.prog X.w) X σ (E σ)) {a b : Expr} {ta tb : TE} {pos : Pos} (hs : notSlice b = true) (ha : PE X a ta) (hb : PE X b tb) (c : Str) (f : Nat) (mem : ((c, Str.ofString "__getitem__"), f) ∈ T.ms) :
    PE X (.Subscript a b pos) (FX.tGti (He.ga X.K c) (spOf X.K (arOf T f) (Φ.1 f) (Φ.2 f)) E ta tb) := by
  obtain ⟨fn, e1, e2, M, Cl⟩ := p.mth c _ f mem
  obtain ⟨fd, F, B, kp⟩ := p.fns f fn e1
  have hf := p.fin f fn e1
  have ea : He.fAd X.K fn.at_ = He.ma X.K (He.ga X.K c) (Str.ofString "__getitem__") := by rw [e2]; rfl
  rw [ea] at F hf
  have en : fn.ps.length = arOf T f := by unfold arOf; rw [e1]; rfl
  rw [en] at F
  exact FX.pe_gti ha hb M hf F p.room B hx (subsc_of hs)
theorem passN' {X : Cx} : ∀ σ : L2.St, PassesAt (L2N.CX X.prog X.w) X σ (fun _ _ _ => False) := fun _ _ _ _ _ _ _ h => by
  obtain ⟨_, _, _, _, _, _, _, _, _, _, _, _, z⟩ := h
  exact z.elim
theorem oeq_op {X : Cx} (p : XP T Φ k X) (c : Str) (f : Nat) (mem : ((c, Str.ofString "__eq__"), f) ∈ T.ms) : OpR X (compareOp .Eq) (FX.rOeq X.K (He.ga X.K c) (spOf X.K (arOf T f) (Φ.1 f) (Φ.2 f)) (fun _ _ _ => False)) := by
  obtain ⟨fn, e1, e2, M, Cl⟩ := p.mth c _ f mem
  obtain ⟨fd, F, B, kp⟩ := p.fns f fn e1
  have ea : He.fAd X.K fn.at_ = He.ma X.K (He.ga X.K c) (Str.ofString "__eq__") := by rw [e2]; rfl
  rw [ea] at F
  have en : fn.ps.length = arOf T f := by unfold arOf; rw [e1]; rfl
  rw [en] at F
  exact FX.opr_oeq M (p.oc c (p.eqc c f mem)).2.su F (p.room.mono (Nat.le_succ _)) B passN
theorem free_blt {X : Cx} (p : XP T Φ k X) (b : Blt) : X.mg (bltN b) = none := p.free _ (by cases b <;> decide +kernel)
theorem bltn_ne (b : Blt) : bltN b ≠ "__name__" := by cases b <;> decide +kernel
theorem call_bl {X : Cx} {C : SC} (p : XP T Φ k X) (c : XC C X) {b : Blt} {es : List Expr} {er : Env → Option (List D × Env)} {q pos : Pos} (hg : glB C (bltN b) = true) (hs : es.all noStar = true) (hne : ∀ ρ pr, er ρ = some pr → pr.1 ≠ [] → es ≠ []) (ha : PXA X es er) :
    PX X (.Call (.Name (bltN b) q) es [] pos) (fun ρ => (er ρ).bind fun p => (bltD b p.1).map fun d => (d, p.2)) := by
  obtain ⟨g1, g2⟩ := c.gl hg
  have hv := blt_boot b
  have hm := free_blt p b
  have hne' := bltn_ne b
  cases es with
  | nil =>
    have hno : ∀ ρ pr, er ρ = some pr → bltD b pr.1 = none := fun ρ pr e => by
      have : pr.1 = [] := Classical.byContradiction fun z => hne ρ pr e z rfl
      rw [this]
      cases b <;> rfl
    refine ⟨⟨fun pins s σ H Q I q => ?_⟩, fun ρ p e => ?_⟩
    · obtain ⟨Gf, N, ts, ρ, hl, hs, p, e, q⟩ := q
      obtain ⟨pr, e1, e⟩ := bnd e
      rw [hno _ _ e1] at e
      cases e
    · obtain ⟨pr, e1, e⟩ := bnd e
      rw [hno _ _ e1] at e
      cases e
  | cons e es =>
    rw [List.all_cons, Bool.and_eq_true] at hs
    refine px_call (snd_Bl b) ?_ ha.ln
    have hc := callr_B (X := X) c.calm b
    cases b <;> first
      | exact pe_callB hc g1 hm hv ha.pa hne' g2 (star_no hs.1) (any_no hs.2)
      | exact pe_callTy hc g1 hm hv ha.pa hne' g2 (star_no hs.1) (any_no hs.2)
end FL

/-! F16: what is checked is so: the expressions' theorem. -/
namespace FL
open PySem PySem.Spec PyProof.Rows L2 StX
variable {T : Tab} {Φ : Fs × Fx} {k : Nat}
theorem pts_imp {X : Cx} {es : List Expr} {t t' : TT} (h : PTs X es t) (f : ∀ σ H Q, t' σ H Q → t σ H Q) : PTs X es t' := ⟨fun pins s σ H Q I q => h.run pins s σ H Q I (f σ H Q q)⟩
theorem two_boot (n : String) (h : n ∈ biNames) : (bootBuiltins (Str.ofString n) = some (.type n) ∧ Str.ofString n ∈ (["len", "int", "list", "tuple", "sum", "abs", "min", "max", "all", "any", "range", "zip", "enumerate", "isinstance", "bool", "str", "dict"] : List Str) ∧ Str.ofString n ≠ "__name__") := by
  simp only [biNames, List.mem_cons, List.not_mem_nil, or_false] at h
  rcases h with rfl | rfl | rfl | rfl | rfl | rfl
  all_goals exact ⟨by decide +kernel, by decide +kernel, by decide +kernel⟩
theorem pts_no {X : Cx} : PTs X [] (tIT X.K fun ρ => some (true, ρ)) := pts_imp pts_nil fun σ H Q ⟨Gf, N, ts, ρ, hl, hs, p, e, q⟩ => by cases e; exact q _ hs
mutual
theorem sE : ∀ (a : E) {C : SC} {X : Cx}, XP T Φ k X → XC C X → ∀ {e : Expr}, ckE T C a e = true → PXB2 X e (evE (Gam T Φ) a)
  | .cst c, C, X, p, x, e, h => by
    simp only [ckE] at h
    split at h
    · rename_i kc j pos
      refine both_val (PX.cg (px_cst (k := kc) (c := c) (v := match c with | .non => .non | .bl b => .bl b | .int i => .int i | .str s => .str s) (by cases c <;> constructor) ?_) fun ρ => by simp only [evE])
      cases c <;> cases kc <;> simp only [cstOk, Bool.false_eq_true] at h <;> first
        | exact pe_non
        | (have := of_decide_eq_true h; subst this; exact pe_bl)
        | (have := of_decide_eq_true h; subst this; exact pe_int)
        | (have := of_decide_eq_true h; subst this; exact pe_str)
    · cases h
  | .gti o b, C, X, p, x, e, h => by
    simp only [ckE] at h
    split at h
    · obtain ⟨h1, h2⟩ := ba2 h
      obtain ⟨h2, h3⟩ := ba2 h2
      have ia := sE o p x h2
      have ib := sE b p x h3
      exact both_val (PX.cg (px_gti (Φ := Φ.1) (Ψ := Φ.2) (ar := arOf T) (fun f ds r h => p.arity h) ia.px ib.px fun c f mem => gti_pe p passN' h1 ia.px.pe ib.px.pe c f mem) fun ρ => by simp only [evE])
    · cases h
  | .oeq o b, C, X, p, x, e, h => by
    simp only [ckE] at h
    split at h
    · obtain ⟨h1, h2⟩ := ba2 h
      obtain ⟨h2, h3⟩ := ba2 h2
      obtain ⟨h3, h4⟩ := ba2 h3
      have e1 := of_decide_eq_true h1
      subst e1
      have ia := sE o p x h3
      have ib := sE b p x h4
      exact PXB2.cg ⟨px_oeq (Φ := Φ.1) (Ψ := Φ.2) (ar := arOf T) (fun f ds r h => p.arity h) ia.px.ln ib.px.ln fun c f mem => pe_cmpR (oeq_op p c f mem) ia.px.pe ib.px.pe (nomark_of h2),
        pxt_oeq (Φ := Φ.1) (Ψ := Φ.2) (ar := arOf T) (fun f ds r h => p.arity h) ia.px.ln ib.px.ln fun c f mem => pt_cmpR (oeq_op p c f mem) ia.px.pe ib.px.pe (nomark_of h2)⟩ fun ρ => by simp only [evE]; rfl
    · cases h
  | .lrg a, C, X, p, x, e, h => by
    simp only [ckE] at h
    split at h
    · obtain ⟨h1, r1⟩ := ba2 h
      obtain ⟨h2, r2⟩ := ba2 r1
      obtain ⟨h3, r3⟩ := ba2 r2
      obtain ⟨h4, r4⟩ := ba2 r3
      obtain ⟨h5, h6⟩ := ba2 r4
      clear h r1 r2 r3 r4
      have e1 := of_decide_eq_true h1
      have e2 := of_decide_eq_true h3
      subst e1 e2
      have ia := sE a p x h6
      refine both_val (PX.cg (px_lrg (pe_listRg x.calm (x.gl h2).1 (p.free _ (by decide +kernel)) (prg_1 (x.gl h4).1 (p.free _ (by decide +kernel)) ia.px.pe (star_no h5))) ia.px.ln) fun ρ => by simp only [evE]; rfl)
    · cases h
  | .plc pl, C, X, p, x, e, h => by
    simp only [ckE] at h
    have ip := x.pl h
    cases pl with
    | nm i =>
      cases e <;> simp only [ckPl, Bool.false_eq_true] at h
      exact both_val (PX.cg (px_plc ip) fun ρ => by simp only [evE]; rfl)
    | sub a b =>
      cases e <;> simp only [ckPl, Bool.false_eq_true] at h
      exact both_val (PX.cg (px_plc ip) fun ρ => by simp only [evE]; rfl)
  | .dic0, C, X, p, x, e, h => by
    simp only [ckE] at h
    split at h
    · refine both_val (PX.cg (ev := fun ρ => some (.dic, ρ)) ⟨pe_imp pe_dnewK fun σ H Q ⟨Gf, N, ts, ρ, hl, hs, p, e, q⟩ => ?_, fun ρ p e => by cases e; rfl⟩ fun ρ => by simp only [evE])
      cases e
      exact fun a ha => q _ _ (hs.newDic ha)
    · cases h
  | .var i, C, X, p, x, e, h => by
    simp only [ckE] at h
    split at h
    · exact both_val (PX.cg (px_var (x.var h)) fun ρ => by simp only [evE])
    · cases h
  | .mov i, C, X, p, x, e, h => by
    simp only [ckE] at h
    split at h
    · exact both_val (PX.cg (px_mov (x.var h)) fun ρ => by simp only [evE])
    · cases h
  | .bin op a b, C, X, p, x, e, h => by
    simp only [ckE] at h
    split at h
    · obtain ⟨h1, h2⟩ := ba2 h
      obtain ⟨h2, h3⟩ := ba2 h2
      have e1 := of_decide_eq_true h1
      subst e1
      have ia := sE a p x h2
      have ib := sE b p x h3
      exact both_val (PX.cg (px_op (snd_B op) (pe_op (opr_B op) ia.px.pe ib.px.pe) ia.px.ln ib.px.ln) fun ρ => by simp only [evE])
    · cases h
  | .neg a, C, X, p, x, e, h => by
    simp only [ckE] at h
    split at h
    · obtain ⟨h1, h2⟩ := ba2 h
      have e1 := of_decide_eq_true h1
      subst e1
      have ia := sE a p x h2
      exact both_val (PX.cg (px_neg (pe_un un_neg ia.px.pe) ia.px.ln) fun ρ => by simp only [evE] <;> rfl)
    · cases h
  | .not a, C, X, p, x, e, h => by
    simp only [ckE] at h
    split at h
    · obtain ⟨h1, h2⟩ := ba2 h
      have e1 := of_decide_eq_true h1
      subst e1
      have ia := sE a p x h2
      exact PXB2.cg ⟨px_not (pe_not ia.px.pe) ia.px.ln, pxt_not (pt_not ia.pxt.pt) ia.px.ln⟩ fun ρ => by simp only [evE]; rfl
    · cases h
  | .and es, C, X, p, x, e, h => by
    simp only [ckE] at h
    split at h
    · obtain ⟨h1, h2⟩ := ba2 h
      have e1 := of_decide_eq_true h1
      subst e1
      have i := sAnd es p x h2
      exact PXB2.cg ⟨(i _).px, (i _).pxt⟩ fun ρ => by simp only [evE]
    · cases h
  | .or es, C, X, p, x, e, h => by
    simp only [ckE] at h
    split at h
    · obtain ⟨h1, h2⟩ := ba2 h
      have e1 := of_decide_eq_true h1
      subst e1
      have i := sOr es p x h2
      exact PXB2.cg ⟨(i _).px, (i _).pxt⟩ fun ρ => by simp only [evE]
    · cases h
  | .cmp op a b, C, X, p, x, e, h => by
    simp only [ckE] at h
    split at h
    · obtain ⟨h1, h2⟩ := ba2 h
      obtain ⟨h2, h3⟩ := ba2 h2
      obtain ⟨h3, h4⟩ := ba2 h3
      have e1 := of_decide_eq_true h1
      subst e1
      have ia := sE a p x h3
      have ib := sE b p x h4
      exact PXB2.cg ⟨px_cmp (snd_C op) (pe_cmpR (opr_C p.hu op) ia.px.pe ib.px.pe (nomark_of h2)) ia.px.ln ib.px.ln, pxt_cmp (snd_C op) (pt_cmpR (opr_C p.hu op) ia.px.pe ib.px.pe (nomark_of h2)) ia.px.ln ib.px.ln⟩ fun ρ => by simp only [evE]
    · cases h
  | .chn op op' a b c, C, X, p, x, e, h => by
    simp only [ckE] at h
    split at h
    · rename_i zl zo zo' zm zr zp
      obtain ⟨h1, h2⟩ := ba2 h
      obtain ⟨h2, h3⟩ := ba2 h2
      obtain ⟨h3, h4⟩ := ba2 h3
      obtain ⟨h4, h5⟩ := ba2 h4
      obtain ⟨h5, h6⟩ := ba2 h5
      have e1 := of_decide_eq_true h1
      have e2 := of_decide_eq_true h2
      subst e1 e2
      have ia := sE a p x h4
      have ib := sE b p x h5
      have ic := sE c p x h6
      have hm : lastMarks [astC op, astC op'] [zm, zr] = false := nomark_of h3
      exact PXB2.cg ⟨px_chn (snd_C op) (snd_C op') (pe_chain (opr_C p.hu op) (opr_C p.hu op') ia.px.pe ib.px.pe ic.px.pe hm) ia.px.ln ib.px.ln ic.px.ln, pxt_chn (snd_C op) (snd_C op') (pt_chain (opr_C p.hu op) (opr_C p.hu op') ia.px.pe ib.px.pe ic.px.pe hm) ia.px.ln ib.px.ln ic.px.ln⟩ fun ρ => by simp only [evE]; rfl
    · cases h
  | .ite c a b, C, X, p, x, e, h => by
    simp only [ckE] at h
    split at h
    · obtain ⟨h1, h2⟩ := ba2 h
      obtain ⟨h2, h3⟩ := ba2 h2
      have ic := sE c p x h1
      have ia := sE a p x h2
      have ib := sE b p x h3
      exact PXB2.cg ⟨px_ite ic.pxt ic.px.ln ia.px ib.px, pxt_ite ic.pxt ic.px.ln ia.pxt ib.pxt ia.px.ln ib.px.ln⟩ fun ρ => by simp only [evE]; rfl
    · cases h
  | .shr a, C, X, p, x, e, h => by
    simp only [ckE] at h
    have ia := sE a p x h
    exact PXB2.cg ⟨px_shr ia.px, pxt_shr ia.pxt⟩ fun ρ => by simp only [evE]
  | .bor a, C, X, p, x, e, h => by
    simp only [ckE] at h
    have ia := sE a p x h
    exact PXB2.cg ⟨px_bor ia.px, pxt_bor ia.pxt⟩ fun ρ => by simp only [evE]; rfl
  | .lnv i, C, X, p, x, e, h => by
    simp only [ckE] at h
    split at h
    · obtain ⟨h1, h2⟩ := ba2 h
      obtain ⟨h2, h3⟩ := ba2 h2
      have e1 := of_decide_eq_true h1
      subst e1
      obtain ⟨g1, g2⟩ := x.gl h2
      refine both_val (PX.cg (px_lnv (i := i) ?_) fun ρ => by simp only [evE])
      exact pe_callB (callr_B x.calm .len) g1 (free_blt p .len) (blt_boot .len) (pa_cons (x.var h3) pa_nil rfl) (bltn_ne .len) g2 rfl (by rfl)
    · cases h
  | .lst es, C, X, p, x, e, h => by
    simp only [ckE] at h
    split at h
    · exact both_val (PX.cg (px_lst (sEs es p x h)) fun ρ => by simp only [evE]; rfl)
    · cases h
  | .tup es, C, X, p, x, e, h => by
    simp only [ckE] at h
    split at h
    · exact both_val (PX.cg (px_tup (sEs es p x h)) fun ρ => by simp only [evE]; rfl)
    · cases h
  | .idx a b, C, X, p, x, e, h => by
    simp only [ckE] at h
    split at h
    · obtain ⟨h1, h2⟩ := ba2 h
      obtain ⟨h2, h3⟩ := ba2 h2
      have ia := sE a p x h2
      have ib := sE b p x h3
      exact both_val (PX.cg (px_op snd_X (pe_ix ixr_X ia.px.pe ib.px.pe (plainIx_of h1)) ia.px.ln ib.px.ln) fun ρ => by simp only [evE])
    · cases h
  | .idv i b, C, X, p, x, e, h => by
    simp only [ckE] at h
    split at h
    · obtain ⟨h1, h2⟩ := ba2 h
      obtain ⟨h2, h3⟩ := ba2 h2
      have ib := sE b p x h3
      exact both_val (PX.cg (px_idv (x.var h2) ib.px (plainIx_of h1)) fun ρ => by simp only [evE])
    · cases h
  | .slc a lo hi, C, X, p, x, e, h => by
    simp only [ckE] at h
    split at h
    · obtain ⟨h1, h2⟩ := ba2 h
      obtain ⟨h2, h3⟩ := ba2 h2
      have ia := sE a p x h1
      exact both_val (PX.cg (px_slc ia.px (sO lo p x h2) (sO hi p x h3)) fun ρ => by simp only [evE])
    · cases h
  | .call f as, C, X, p, x, e, h => by
    simp only [ckE] at h
    split at h
    · obtain ⟨h1, h2⟩ := ba2 h
      obtain ⟨h2, h3⟩ := ba2 h2
      obtain ⟨i1, i2⟩ := sAs as p x h3
      exact both_val (PX.cg (call_fn p x (of_decide_eq_true h1) h2 (ckAs_all h3) i1 i2) fun ρ => by simp only [evE]; rfl)
    · cases h
  | .meth m o as, C, X, p, x, e, h => by
    simp only [ckE] at h
    split at h
    · obtain ⟨h1, h2⟩ := ba2 h
      obtain ⟨h2, h3⟩ := ba2 h2
      obtain ⟨h3, h4⟩ := ba2 h3
      obtain ⟨h4, h5⟩ := ba2 h4
      obtain ⟨h5, h6⟩ := ba2 h5
      have e1 := of_decide_eq_true h1
      subst e1
      obtain ⟨i1, i2⟩ := sAs as p x h6
      exact both_val (PX.cg (call_mt p x h2 h3 (of_decide_eq_true h4) (ckAs_all h6) (sA o p x h5) i1 i2) fun ρ => by simp only [evE]; rfl)
    · cases h
  | .make c f as, C, X, p, x, e, h => by
    simp only [ckE] at h
    split at h
    · obtain ⟨h1, h2⟩ := ba2 h
      obtain ⟨h2, h3⟩ := ba2 h2
      obtain ⟨h3, h4⟩ := ba2 h3
      have e1 := of_decide_eq_true h1
      subst e1
      obtain ⟨i1, i2⟩ := sAs as p x h4
      exact both_val (PX.cg (call_mk p x (of_decide_eq_true h2) h3 (ckAs_all h4) i1 i2) fun ρ => by simp only [evE]; rfl)
    · cases h
  | .blt b es, C, X, p, x, e, h => by
    simp only [ckE] at h
    split at h
    · obtain ⟨h1, h2⟩ := ba2 h
      obtain ⟨h2, h3⟩ := ba2 h2
      have e1 := of_decide_eq_true h1
      subst e1
      obtain ⟨i1, i2⟩ := sPs es p x h3
      exact both_val (PX.cg (call_bl p x h2 (ckPs_all h3) i2 i1) fun ρ => by simp only [evE])
    · cases h
  | .isi a t, C, X, p, x, e, h => by
    simp only [ckE] at h
    split at h
    · cases t with
      | own c =>
        simp only at h
        obtain ⟨h1, r1⟩ := ba2 h
        obtain ⟨h2, r2⟩ := ba2 r1
        obtain ⟨h3, r3⟩ := ba2 r2
        obtain ⟨h4, r4⟩ := ba2 r3
        obtain ⟨h5, r5⟩ := ba2 r4
        obtain ⟨h6, h7⟩ := ba2 r5
        clear h r1 r2 r3 r4 r5
        have e1 := of_decide_eq_true h1
        have e2 := of_decide_eq_true h2
        subst e1 e2
        have ia := sE a p x h7
        obtain ⟨g1, g2⟩ := x.gl h4
        obtain ⟨g3, g4⟩ := x.gl h5
        obtain ⟨o1, o2⟩ := p.oc _ (by simpa using h3)
        refine both_val (PX.cg (px_isO o2 ?_ ia.px.ln) fun ρ => by simp only [evE])
        exact pe_callB call_isi g1 (p.free _ (by decide +kernel)) (by decide +kernel) (pa_cons ia.px.pe (pa_cons (pe_glob g3 o1 rfl g4) pa_nil) (star_no h6)) (by decide +kernel) g2 (star_no h6) (by rfl)
      | bi n =>
        simp only at h
        obtain ⟨h1, r1⟩ := ba2 h
        obtain ⟨h2, r2⟩ := ba2 r1
        obtain ⟨h3, r3⟩ := ba2 r2
        obtain ⟨h4, r4⟩ := ba2 r3
        obtain ⟨h5, r5⟩ := ba2 r4
        obtain ⟨h6, h7⟩ := ba2 r5
        clear h r1 r2 r3 r4 r5
        have e1 := of_decide_eq_true h1
        have e2 := of_decide_eq_true h2
        subst e1 e2
        have ia := sE a p x h7
        have hn : n ∈ biNames := by simpa using h3
        obtain ⟨g1, g2⟩ := x.gl h4
        obtain ⟨g3, g4⟩ := x.gl h5
        refine both_val (PX.cg (px_isi hn ?_ ia.px.ln) fun ρ => by simp only [evE])
        obtain ⟨b1, b2, b3⟩ := two_boot n hn
        exact pe_callB call_isi g1 (p.free _ (by decide +kernel)) (by decide +kernel) (pa_cons ia.px.pe (pa_cons (pe_bltn g3 (p.free _ b2) b1 rfl b3 g4) pa_nil) (star_no h6)) (by decide +kernel) g2 (star_no h6) (by rfl)
    · cases h
  | .fld a f, C, X, p, x, e, h => by
    simp only [ckE] at h
    split at h
    · obtain ⟨h1, h2⟩ := ba2 h
      obtain ⟨h2, h3⟩ := ba2 h2
      have e1 := of_decide_eq_true h1
      subst e1
      have ia := sE a p x h3
      exact both_val (PX.cg (px_fld p.cls ia.px (base_of h2)) fun ρ => by simp only [evE])
    · cases h
  | .flv i f, C, X, p, x, e, h => by
    simp only [ckE] at h
    split at h
    · obtain ⟨h1, h2⟩ := ba2 h
      have e1 := of_decide_eq_true h1
      subst e1
      exact both_val (PX.cg (px_flv p.cls (x.var h2) (by rfl)) fun ρ => by simp only [evE])
    · cases h
  | .comp2 elt t1 it1 t2 it2 cond, C, X, p, x, e, h => by
    simp only [ckE] at h
    split at h
    · rename_i el tg itr as tg1 itr1 ifs1 as1 scope pos
      obtain ⟨h1, r⟩ := ba2 h
      obtain ⟨h2, r⟩ := ba2 r
      obtain ⟨h3, r⟩ := ba2 r
      obtain ⟨h4, r⟩ := ba2 r
      obtain ⟨h5, r⟩ := ba2 r
      obtain ⟨h6, r⟩ := ba2 r
      obtain ⟨h7, r⟩ := ba2 r
      obtain ⟨h8, r⟩ := ba2 r
      obtain ⟨h9, r⟩ := ba2 r
      obtain ⟨h10, r⟩ := ba2 r
      obtain ⟨h11, h12⟩ := ba2 r
      have e1 := of_decide_eq_true h1
      have e2 := of_decide_eq_true h2
      subst e1 e2
      have sl := of_decide_eq_true h6
      have i1 := sI it1 p x h7
      have lli := (sI it2 (p.blk X.s_0 X.H_0 scope _ []) (x.blk X.s_0 X.H_0 scope 0 [] []) h9).ln
      have llc := (sC cond (p.blk X.s_0 X.H_0 scope _ []) (x.blk X.s_0 X.H_0 scope 0 [] []) h11).2
      have lle := (sE elt (p.blk X.s_0 X.H_0 scope _ []) (x.blk X.s_0 X.H_0 scope 0 [] []) h12).px.ln
      have key := pe_lc2 (elt := el) (tg := tg) (iter := itr) (tg1 := tg1) (iter1 := itr1) (ifs := []) (ifs1 := ifs1) (scope := scope) (wi := tIt X.K (evIt (Gam T Φ) it1)) (wi1 := tIt X.K (evIt (Gam T Φ) it2)) (g := gT X.K t1) (g1 := gT X.K t2) (tt := tIT X.K fun ρ => some (true, ρ)) (tt1 := tIT X.K (evC (Gam T Φ) cond)) (te := tI X.K (evE (Gam T Φ) elt)) (own := ownOf2 C t1 t2) (vs1 := t2.slots) (pos := pos) x.calm x.nd i1.pi (by rw [x.hN, x.sc]; exact blkOk_by h5) (fun i hi => by rw [sl]; exact List.mem_append_right _ hi)
        (fun s H D cl fp => pg_of (x.blk s H scope D cl fp) h8) (fun s H D cl fp => pts_no)
        (fun s H D cl fp => (sI it2 (p.blk s H scope _ fp) (x.blk s H scope D cl fp) h9).pi) (fun s H D cl fp => pg_of (x.blk s H scope D cl fp) h10)
        (fun s H D cl fp => (sC cond (p.blk s H scope _ fp) (x.blk s H scope D cl fp) h11).1) (fun s H D cl fp => (sE elt (p.blk s H scope _ fp) (x.blk s H scope D cl fp) h12).px.pe) (folded_of h3 X.env) (folded_of h4)
      refine both_val (PX.cg (ev := compE2 t1 t2 (evIt (Gam T Φ) it1) (evIt (Gam T Φ) it2) (evC (Gam T Φ) cond) (evE (Gam T Φ) elt)) ⟨pe_imp key fun σ H Q q => ?_, compE2_ln i1.ln lli llc lle⟩ fun ρ => by simp only [evE]; rfl)
      rw [sl]
      exact tI_comp2 i1.ln lli llc lle q
    · cases h
  | .comp elt t it cond, C, X, p, x, e, h => by
    simp only [ckE] at h
    split at h
    · rename_i el tg itr ifs as scope pos
      obtain ⟨h1, h2⟩ := ba2 h
      obtain ⟨h2, h3⟩ := ba2 h2
      obtain ⟨h3, h4⟩ := ba2 h3
      obtain ⟨h4, h5⟩ := ba2 h4
      obtain ⟨h5, h6⟩ := ba2 h5
      obtain ⟨h6, h7⟩ := ba2 h6
      obtain ⟨h7, h8⟩ := ba2 h7
      have e1 := of_decide_eq_true h1
      subst e1
      have q : CompOk X (evE (Gam T Φ) elt) t (evIt (Gam T Φ) it) (evC (Gam T Φ) cond) el tg itr ifs scope (ownOf C t) :=
        ⟨of_decide_eq_true h4, by rw [x.hN, x.sc]; exact blkOk_by h3, sI it p x h5, fun s H D cl fp => pg_of (x.blk s H scope D cl fp) h6,
          fun s H D cl fp => (sC cond (p.blk s H scope _ fp) (x.blk s H scope D cl fp) h7).1, fun s H D cl fp => (sE elt (p.blk s H scope _ fp) (x.blk s H scope D cl fp) h8).px.pe, (sC cond (p.blk X.s_0 X.H_0 scope _ []) (x.blk X.s_0 X.H_0 scope 0 [] []) h7).2, (sE elt (p.blk X.s_0 X.H_0 scope _ []) (x.blk X.s_0 X.H_0 scope 0 [] []) h8).px.ln, h2⟩
      exact both_val (PX.cg (q.px x.calm x.nd) fun ρ => by simp only [evE]; rfl)
    · cases h
theorem sO : ∀ (a : OE) {C : SC} {X : Cx}, XP T Φ k X → XC C X → ∀ {e : Option Expr}, ckO T C a e = true → PXO X e (evO (Gam T Φ) a)
  | .no, C, X, p, x, e, h => by
    simp only [ckO] at h
    split at h
    · have : evO (Gam T Φ) .no = fun ρ => some (none, ρ) := by funext ρ; simp only [evO]
      rw [this]; exact pxo_no
    · cases h
  | .yes a, C, X, p, x, e, h => by
    simp only [ckO] at h
    split at h
    · have ia := sE a p x h
      have : evO (Gam T Φ) (.yes a) = someE (evE (Gam T Φ) a) := by funext ρ; simp only [evO]; rfl
      rw [this]; exact pxo_yes ia.px (po_some ia.px.pe)
    · cases h
theorem sC : ∀ (a : OE) {C : SC} {X : Cx}, XP T Φ k X → XC C X → ∀ {e : List Expr}, ckCs T C a e = true → PTs X e (tIT X.K (evC (Gam T Φ) a)) ∧ Ln (evC (Gam T Φ) a)
  | .no, C, X, p, x, e, h => by
    simp only [ckCs] at h
    split at h
    · have : evC (Gam T Φ) .no = fun ρ => some (true, ρ) := by funext ρ; simp only [evC]
      rw [this]
      exact ⟨pts_imp pts_nil fun σ H Q ⟨Gf, N, ts, ρ, hl, hs, p, e, q⟩ => by cases e; exact q _ hs, fun ρ p e => by cases e; rfl⟩
    · cases h
  | .yes a, C, X, p, x, e, h => by
    simp only [ckCs] at h
    split at h
    · have ia := sE a p x h
      have : evC (Gam T Φ) (.yes a) = asT (evE (Gam T Φ) a) := by funext ρ; simp only [evC]; rfl
      rw [this]
      exact ⟨pts_one ia.pxt.pt, ia.pxt.ln⟩
    · cases h
theorem sAnd : ∀ (es : Es) {C : SC} {X : Cx}, XP T Φ k X → XC C X → ∀ {xs : List Expr}, ckBs T C es xs = true → ∀ pos : Pos, PXB X (.BoolOp .And xs pos) (evAnd (Gam T Φ) es)
  | .nil, C, X, p, x, xs, h, pos => by simp [ckBs] at h
  | .star _ _, C, X, p, x, xs, h, pos => by simp [ckBs] at h
  | .cons a es, C, X, p, x, xs, h, pos => by
    simp only [ckBs] at h
    split at h
    · obtain ⟨h1, h2⟩ := ba2 h
      cases es with
      | nil =>
        have ia := sE a p x h2
        have : evAnd (Gam T Φ) (.cons a .nil) = asT (evE (Gam T Φ) a) := by funext ρ; simp only [evAnd]; rfl
        rw [this]; exact pxb_and1 ia.px ia.pxt
      | cons _ _ => cases h1
      | star _ _ => cases h1
    · rename_i z y r
      obtain ⟨h1, h2⟩ := ba2 h
      have ia := sE a p x h1
      have ib := sAnd es p x h2 pos
      cases es with
      | nil => simp [ckBs] at h2
      | star _ _ => simp [ckBs] at h2
      | cons b es =>
        have : evAnd (Gam T Φ) (.cons a (.cons b es)) = andE (evE (Gam T Φ) a) (evAnd (Gam T Φ) (.cons b es)) := by funext ρ; rw [evAnd]; rfl; simp
        rw [this]; exact pxb_and ia.px ia.pxt ib
    · cases h
theorem sOr : ∀ (es : Es) {C : SC} {X : Cx}, XP T Φ k X → XC C X → ∀ {xs : List Expr}, ckBs T C es xs = true → ∀ pos : Pos, PXB X (.BoolOp .Or xs pos) (evOr (Gam T Φ) es)
  | .nil, C, X, p, x, xs, h, pos => by simp [ckBs] at h
  | .star _ _, C, X, p, x, xs, h, pos => by simp [ckBs] at h
  | .cons a es, C, X, p, x, xs, h, pos => by
    simp only [ckBs] at h
    split at h
    · obtain ⟨h1, h2⟩ := ba2 h
      cases es with
      | nil =>
        have ia := sE a p x h2
        have : evOr (Gam T Φ) (.cons a .nil) = asT (evE (Gam T Φ) a) := by funext ρ; simp only [evOr]; rfl
        rw [this]; exact pxb_or1 ia.px ia.pxt
      | cons _ _ => cases h1
      | star _ _ => cases h1
    · rename_i z y r
      obtain ⟨h1, h2⟩ := ba2 h
      have ia := sE a p x h1
      have ib := sOr es p x h2 pos
      cases es with
      | nil => simp [ckBs] at h2
      | star _ _ => simp [ckBs] at h2
      | cons b es =>
        have : evOr (Gam T Φ) (.cons a (.cons b es)) = orE (evE (Gam T Φ) a) (evOr (Gam T Φ) (.cons b es)) := by funext ρ; rw [evOr]; rfl; simp
        rw [this]; exact pxb_or ia.px ia.pxt ib
    · cases h
theorem sEs : ∀ (es : Es) {C : SC} {X : Cx}, XP T Φ k X → XC C X → ∀ {xs : List Expr}, ckEs T C es xs = true → PXA X xs (evEs (Gam T Φ) es)
  | .nil, C, X, p, x, xs, h => by
    simp only [ckEs] at h
    split at h
    · exact PXA.cg pxa_nil fun ρ => by simp only [evEs]
    · cases h
  | .star a es, C, X, p, x, xs, h => by
    simp only [ckEs] at h
    split at h
    · obtain ⟨h1, h2⟩ := ba2 h
      have ia := sE a p x h1
      exact PXA.cg (pxa_star ia.px (sEs es p x h2) rfl) fun ρ => by simp only [evEs]; rfl
    · cases h
  | .cons a es, C, X, p, x, xs, h => by
    simp only [ckEs] at h
    split at h
    · obtain ⟨h1, h2⟩ := ba2 h
      obtain ⟨h2, h3⟩ := ba2 h2
      have ia := sE a p x h2
      exact PXA.cg (pxa_cons ia.px (sEs es p x h3) (star_no h1)) fun ρ => by simp only [evEs]
    · cases h
theorem sPs : ∀ (es : Es) {C : SC} {X : Cx}, XP T Φ k X → XC C X → ∀ {xs : List Expr}, ckPs T C es xs = true → PXA X xs (evEs (Gam T Φ) es) ∧ ∀ ρ pr, evEs (Gam T Φ) es ρ = some pr → pr.1 ≠ [] → xs ≠ []
  | .nil, C, X, p, x, xs, h => by
    simp only [ckPs] at h
    split at h
    · refine ⟨PXA.cg pxa_nil fun ρ => by simp only [evEs], fun ρ pr e => ?_⟩
      simp only [evEs] at e
      cases e
      exact fun z => absurd rfl z
    · cases h
  | .star a es, C, X, p, x, xs, h => by simp [ckPs] at h
  | .cons a es, C, X, p, x, xs, h => by
    simp only [ckPs] at h
    split at h
    · obtain ⟨h1, h2⟩ := ba2 h
      obtain ⟨h2, h3⟩ := ba2 h2
      have ia := sE a p x h2
      exact ⟨PXA.cg (pxa_cons ia.px (sPs es p x h3).1 (star_no h1)) fun ρ => by simp only [evEs], fun ρ pr e z => by simp⟩
    · cases h
theorem sA : ∀ (a : A) {C : SC} {X : Cx}, XP T Φ k X → XC C X → ∀ {e : Expr}, ckA T C a e = true → PX1 X e a (evA (Gam T Φ) a)
  | .val a, C, X, p, x, e, h => by
    simp only [ckA] at h
    obtain ⟨h1, h2⟩ := ba2 h
    have ia := sE a p x h2
    have : evA (Gam T Φ) (.val a) = fun ρ => (evE (Gam T Φ) a ρ).map fun p => (some p.1, p.2) := by funext ρ; simp only [evA]
    rw [this]; exact px1_val ia.px
  | .ref i, C, X, p, x, e, h => by
    simp only [ckA] at h
    split at h
    · have : evA (Gam T Φ) (.ref i) = fun ρ => (getS ρ i).map fun _ => (none, ρ) := by funext ρ; simp only [evA]
      rw [this]; exact px1_ref (x.var h)
    · cases h
theorem sAs : ∀ (as : As) {C : SC} {X : Cx}, XP T Φ k X → XC C X → ∀ {es : List Expr}, ckAs T C as es = true → PXG X es as (evAs (Gam T Φ) as) ∧ NilOk es as (evAs (Gam T Φ) as)
  | .nil, C, X, p, x, es, h => by
    simp only [ckAs] at h
    split at h
    · have : evAs (Gam T Φ) .nil = fun ρ => some ([], ρ) := by funext ρ; simp only [evAs]
      rw [this]; exact ⟨pxg_nil, fun _ => ⟨rfl, rfl⟩⟩
    · cases h
  | .cons a as, C, X, p, x, es, h => by
    simp only [ckAs] at h
    split at h
    · obtain ⟨h1, h2⟩ := ba2 h
      have ia := sA a p x h1
      have : evAs (Gam T Φ) (.cons a as) = fun ρ => (evA (Gam T Φ) a ρ).bind fun p => (evAs (Gam T Φ) as p.2).map fun q => (p.1 :: q.1, q.2) := by funext ρ; simp only [evAs]
      rw [this]; exact ⟨pxg_cons ia (sAs as p x h2).1 (star_no (noStar_of h1)), fun z => by cases z⟩
    · cases h
theorem sI : ∀ (it : It) {C : SC} {X : Cx}, XP T Φ k X → XC C X → ∀ {e tg : Expr}, ckI T C it e tg = true → PXI X tg e (evIt (Gam T Φ) it)
  | .seq a, C, X, p, x, e, tg, h => by
    simp only [ckI] at h
    have ia := sE a p x h
    have : evIt (Gam T Φ) (.seq a) = seqE (evE (Gam T Φ) a) := by funext ρ; simp only [evIt]; rfl
    rw [this]; exact pxi_seq ia.px (pi_list ia.px.pe) (pi_tup ia.px.pe)
  | .rng a, C, X, p, x, e, tg, h => by
    simp only [ckI] at h
    split at h
    · obtain ⟨h1, h2⟩ := ba2 h
      obtain ⟨h2, h3⟩ := ba2 h2
      obtain ⟨h3, h4⟩ := ba2 h3
      have e1 := of_decide_eq_true h1
      subst e1
      have ia := sE a p x h4
      have : evIt (Gam T Φ) (.rng a) = rngE (evE (Gam T Φ) a) := by funext ρ; simp only [evIt]; rfl
      rw [this]; exact pxi_rng ia.px.ln (pi_range1 (x.gl h2).1 (p.free _ (by decide +kernel)) (pa_cons ia.px.pe pa_nil (star_no h3)) (star_no h3))
    · cases h
  | .rng2 a b, C, X, p, x, e, tg, h => by
    simp only [ckI] at h
    split at h
    · obtain ⟨h1, h2⟩ := ba2 h
      obtain ⟨h2, h3⟩ := ba2 h2
      obtain ⟨h3, h4⟩ := ba2 h3
      obtain ⟨h4, h5⟩ := ba2 h4
      obtain ⟨h5, h6⟩ := ba2 h5
      have e1 := of_decide_eq_true h1
      subst e1
      have ia := sE a p x h5
      have ib := sE b p x h6
      have : evIt (Gam T Φ) (.rng2 a b) = rng2E (evE (Gam T Φ) a) (evE (Gam T Φ) b) := by funext ρ; simp only [evIt]; rfl
      rw [this]; exact pxi_rng2 ia.px.ln ib.px.ln (pi_range2 (x.gl h2).1 (p.free _ (by decide +kernel)) (pa_cons ia.px.pe (pa_cons ib.px.pe pa_nil (star_no h4)) (star_no h3)) (by rw [star_no h3, star_no h4]; rfl) (star_no h4))
    · cases h
  | .zip a b, C, X, p, x, e, tg, h => by
    simp only [ckI] at h
    split at h
    · obtain ⟨h1, h2⟩ := ba2 h
      obtain ⟨h0, h2⟩ := ba2 h2
      obtain ⟨h2, h3⟩ := ba2 h2
      obtain ⟨h3, h4⟩ := ba2 h3
      obtain ⟨h4, h5⟩ := ba2 h4
      obtain ⟨h5, h6⟩ := ba2 h5
      have e1 := of_decide_eq_true h1
      subst e1
      have ia := sE a p x h5
      have ib := sE b p x h6
      have : evIt (Gam T Φ) (.zip a b) = zipE (evE (Gam T Φ) a) (evE (Gam T Φ) b) := by funext ρ; simp only [evIt]; rfl
      rw [this]
      have hg2 := (x.gl h2).1
      cases tg <;> simp only [isTuple, Bool.false_eq_true] at h0
      exact pxi_zip ia.px.ln ib.px.ln (pi_zip hg2 (p.free _ (by decide +kernel)) (pa_cons ia.px.pe (pa_cons ib.px.pe pa_nil (star_no h4)) (star_no h3)) (star_no h3) (any_no (by simp [h4])))
    · cases h
  | .enum a, C, X, p, x, e, tg, h => by
    simp only [ckI] at h
    split at h
    · obtain ⟨h1, h2⟩ := ba2 h
      obtain ⟨h0, h2⟩ := ba2 h2
      obtain ⟨h2, h3⟩ := ba2 h2
      obtain ⟨h3, h4⟩ := ba2 h3
      have e1 := of_decide_eq_true h1
      subst e1
      have ia := sE a p x h4
      have : evIt (Gam T Φ) (.enum a) = enumE (evE (Gam T Φ) a) := by funext ρ; simp only [evIt]; rfl
      rw [this]
      have hg2 := (x.gl h2).1
      cases tg <;> simp only [isTuple, Bool.false_eq_true] at h0
      exact pxi_enum ia.px.ln (pi_enum hg2 (p.free _ (by decide +kernel)) (pa_cons ia.px.pe pa_nil (star_no h3)) (star_no h3))
    · cases h
end
end FL

/-! X4: what is checked is so: expressions that raise, suites of clauses. -/
namespace FL
open PySem PySem.Spec PyProof.Rows L2 StX
variable {T : Tab} {Φ : Fs × Fx} {k : Nat}
theorem callx_fn {X : Cx} {C : SC} {W : WX} (p : XP T Φ k X) (c : XC C X) (tk : L2N.Takes X W) {f : Nat} {x : Str} {es : List Expr} {as : As} {er : Env → Option (List (Option D) × Env)} {q pos : Pos} (hf : (T.fns[f]?).map (·.at_) = some (x, none)) (hg : glB C x = true) (hs : es.all noStar = true) (ha : PXG X es as er) (hn0 : NilOk es as er) :
    PXX X W (.Call (.Name x q) es [] pos) (callX (Φ.2 f) as er) := by
  obtain ⟨fn, e1, e2⟩ := mpd hf
  obtain ⟨fd, F, B, kp⟩ := p.fns f fn e1
  have ea : He.fAd X.K fn.at_ = He.ga X.K x := by rw [e2]; rfl
  rw [ea] at F kp
  have hm := p.glo f fn e1 (by rw [e2])
  rw [e2] at hm
  have hm : X.mg x = some (.ref (He.ga X.K x)) := hm
  obtain ⟨g1, g2⟩ := c.gl hg
  have hn : ∀ ds r, Φ.2 f ds = some r → ds.length = fn.ps.length := fun ds r h => by
    obtain ⟨fn', e3, e4⟩ := p.arX f ds r h
    rw [e1] at e3; cases e3; exact e4
  have hr : Room k X.A := p.room.mono (Nat.le_succ _)
  cases es with
  | nil =>
    obtain ⟨rfl, rfl⟩ := hn0 rfl
    exact pxx_call hn ha (pe_imp (FX.pe_call0S F hr g1 hm kp B (L2N.passAt tk) g2) fun σ H Q q => tArg_nil q)
  | cons e es =>
    rw [List.all_cons, Bool.and_eq_true] at hs
    exact pxx_call hn ha (pe_callS F hr g1 hm kp B (L2N.passAt tk) ha.pa g2 (star_no hs.1) (any_no hs.2))
theorem callx_mk {X : Cx} {C : SC} {W : WX} (p : XP T Φ k X) (c : XC C X) (tk : L2N.Takes X W) {f : Nat} {x : Str} {es : List Expr} {as : As} {er : Env → Option (List (Option D) × Env)} {q pos : Pos} (hf : (T.fns[f]?).map (·.at_) = some (x, some ("__init__" : Str))) (hg : glB C x = true) (hs : es.all noStar = true) (ha : PXG X es as er) (hn0 : NilOk es as er) :
    PXX X W (.Call (.Name x q) es [] pos) (makeX (Φ.2 f) x as er) := by
  obtain ⟨fn, e1, e2⟩ := mpd hf
  obtain ⟨fd, F, B, kp⟩ := p.fns f fn e1
  obtain ⟨M, hm⟩ := p.mak f fn x e1 e2
  have ea : He.fAd X.K fn.at_ = He.ma X.K (He.ga X.K x) "__init__" := by rw [e2]; rfl
  rw [ea] at F
  obtain ⟨g1, g2⟩ := c.gl hg
  have hn : ∀ ds r, Φ.2 f ds = some r → ds.length = fn.ps.length := fun ds r h => by
    obtain ⟨fn', e3, e4⟩ := p.arX f ds r h
    rw [e1] at e3; cases e3; exact e4
  cases es with
  | nil =>
    obtain ⟨rfl, rfl⟩ := hn0 rfl
    exact pxx_make hn ha (pe_imp (FX.pe_make0S' M F p.room g1 hm B (L2N.passAt tk) g2) fun σ H Q q => tArg_nil q)
  | cons e es =>
    rw [List.all_cons, Bool.and_eq_true] at hs
    exact pxx_make hn ha (FX.pe_makeS' M F p.room g1 hm B (L2N.passAt tk) ha.pa g2 (star_no hs.1) (any_no hs.2))
theorem callx_mt {X : Cx} {C : SC} {W : WX} (p : XP T Φ k X) (c : XC C X) (tk : L2N.Takes X W) {m : Str} {oe : Expr} {o : A} {ex : Env → Option (Option D × Env)} {es : List Expr} {as : As} {er : Env → Option (List (Option D) × Env)} {ap pos : Pos} (hb : notCall oe = true) (hl : (ap.endLine == pos.line) = true) (h30 : es.length < 30) (hs : es.all noStar = true)
    (ho : PX1 X oe o ex) (ha : PXG X es as er) (hn0 : NilOk es as er) : PXX X W (.Call (.Attribute oe m ap) es [] pos) (methX Φ.2 T.ms m o as ex er) := by
  refine pxx_meth (Φ := Φ.1) (ar := arOf T) (fun f ds r h => p.arityX h) ho ha fun cl f hmem => ?_
  obtain ⟨fn, e1, e2, M, Cl⟩ := p.mth cl m f hmem
  obtain ⟨fd, F, B, kp⟩ := p.fns f fn e1
  have ea : He.fAd X.K fn.at_ = He.ma X.K (He.ga X.K cl) m := by rw [e2]; rfl
  rw [ea] at F
  have en : fn.ps.length = arOf T f := by unfold arOf; rw [e1]; rfl
  rw [en] at F
  have hr : Room k X.A := p.room.mono (Nat.le_succ _)
  cases es with
  | nil =>
    obtain ⟨rfl, rfl⟩ := hn0 rfl
    refine pe_imp (FX.pe_meth0S' (pl := plainOf oe X.env) ho.pe Cl M F hr B (L2N.passAt tk) (mth_eq (base_of hb) rfl h30 hl)) fun σ H Q q => ?_
    obtain ⟨Gf, N, ts, ρ, hl, hs, p, e, q⟩ := q
    refine ⟨Gf, N, ts, ρ, hl, hs, p, e, fun v H' r h' => ?_⟩
    obtain ⟨a, dx, fs, z1, z2, z3, z4⟩ := q v H' r h'
    exact ⟨a, dx, fs, z1, z2, z3, tArg_nil z4⟩
  | cons e es =>
    have hs' := hs
    rw [List.all_cons, Bool.and_eq_true] at hs
    exact FX.pe_methS' (pl := plainOf oe X.env) ho.pe Cl M F hr B (L2N.passAt tk) ha.pa (star_no hs.1) (any_no hs.2) (mth_eq (base_of hb) hs' h30 hl)
theorem callx_bl {X : Cx} {C : SC} {W : WX} (p : XP T Φ k X) (c : XC C X) {b : Blt} {es : List Expr} {ev : Env → Option (Exn × Env)} {q pos : Pos} (hg : glB C (bltN b) = true) (hs : es.all noStar = true) (ha : PXXs X W es ev) (h0 : es = [] → ∀ ρ, ev ρ = none) : PXX X W (.Call (.Name (bltN b) q) es [] pos) ev := by
  obtain ⟨g1, g2⟩ := c.gl hg
  have hv := blt_boot b
  have hm := free_blt p b
  have hne' := bltn_ne b
  refine ⟨?_, ha.ln⟩
  cases es with
  | nil =>
    have e : ev = fun _ => none := funext (h0 rfl)
    rw [e]
    exact pxx_none.pe
  | cons e es =>
    rw [List.all_cons, Bool.and_eq_true] at hs
    have hc := callr_B (X := X) c.calm b
    cases b <;> first
      | exact pe_imp (pe_callB hc g1 hm hv ha.pa hne' g2 (star_no hs.1) (any_no hs.2)) fun σ H Q q => q
      | exact pe_imp (pe_callTy hc g1 hm hv ha.pa hne' g2 (star_no hs.1) (any_no hs.2)) fun σ H Q q => q
mutual
theorem sX : ∀ (a : E) {C : SC} {X : Cx} {W : WX}, XP T Φ k X → XC C X → L2N.Takes X W → ∀ {e : Expr}, ckE T C a e = true → PXX X W e (evX (Gam T Φ) a)
  | .call f as, C, X, W, p, x, tk, e, h => by
    simp only [ckE] at h
    split at h
    · obtain ⟨h1, h2⟩ := ba2 h
      obtain ⟨h2, h3⟩ := ba2 h2
      obtain ⟨i1, i2⟩ := sAs as p x h3
      exact PXX.cg (callx_fn p x tk (of_decide_eq_true h1) h2 (ckAs_all h3) i1 i2) fun ρ => by simp only [evX]; rfl
    · cases h
  | .meth m o as, C, X, W, p, x, tk, e, h => by
    simp only [ckE] at h
    split at h
    · obtain ⟨h1, h2⟩ := ba2 h
      obtain ⟨h2, h3⟩ := ba2 h2
      obtain ⟨h3, h4⟩ := ba2 h3
      obtain ⟨h4, h5⟩ := ba2 h4
      obtain ⟨h5, h6⟩ := ba2 h5
      have e1 := of_decide_eq_true h1
      subst e1
      obtain ⟨i1, i2⟩ := sAs as p x h6
      exact PXX.cg (callx_mt p x tk h2 h3 (of_decide_eq_true h4) (ckAs_all h6) (sA o p x h5) i1 i2) fun ρ => by simp only [evX]; rfl
    · cases h
  | .make c f as, C, X, W, p, x, tk, e, h => by
    simp only [ckE] at h
    split at h
    · obtain ⟨h1, h2⟩ := ba2 h
      obtain ⟨h2, h3⟩ := ba2 h2
      obtain ⟨h3, h4⟩ := ba2 h3
      have e1 := of_decide_eq_true h1
      subst e1
      obtain ⟨i1, i2⟩ := sAs as p x h4
      exact PXX.cg (callx_mk p x tk (of_decide_eq_true h2) h3 (ckAs_all h4) i1 i2) fun ρ => by simp only [evX]; rfl
    · cases h
  | .shr a, C, X, W, p, x, tk, e, h => by
    simp only [ckE] at h
    exact PXX.cg (sX a p x tk h) fun ρ => by simp only [evX]
  | .tup es, C, X, W, p, x, tk, e, h => by
    simp only [ckE] at h
    split at h
    · exact PXX.cg (pxx_tup (sXs es p x tk h)) fun ρ => by simp only [evX]
    · cases h
  | .cst _, _, _, _, _, _, _, _, _ => PXX.cg pxx_none fun ρ => by simp only [evX]
  | .var _, _, _, _, _, _, _, _, _ => PXX.cg pxx_none fun ρ => by simp only [evX]
  | .mov _, _, _, _, _, _, _, _, _ => PXX.cg pxx_none fun ρ => by simp only [evX]
  | .bin _ _ _, _, _, _, _, _, _, _, _ => PXX.cg pxx_none fun ρ => by simp only [evX]
  | .neg _, _, _, _, _, _, _, _, _ => PXX.cg pxx_none fun ρ => by simp only [evX]
  | .not _, _, _, _, _, _, _, _, _ => PXX.cg pxx_none fun ρ => by simp only [evX]
  | .and _, _, _, _, _, _, _, _, _ => PXX.cg pxx_none fun ρ => by simp only [evX]
  | .or _, _, _, _, _, _, _, _, _ => PXX.cg pxx_none fun ρ => by simp only [evX]
  | .cmp op a b, C, X, W, p, x, tk, e, h => by
    simp only [ckE] at h
    split at h
    · obtain ⟨h1, h2⟩ := ba2 h
      obtain ⟨h2, h3⟩ := ba2 h2
      obtain ⟨h3, h4⟩ := ba2 h3
      have e1 := of_decide_eq_true h1
      subst e1
      have ia := sX a p x tk h3
      have ib := sE b p x h4
      exact PXX.cg ⟨pe_imp (pe_cmpR (opr_C p.hu op) ia.pe ib.px.pe (nomark_of h2)) fun σ H Q q => q, ia.ln⟩ fun ρ => by simp only [evX]
    · cases h
  | .chn _ _ _ _ _, _, _, _, _, _, _, _, _ => PXX.cg pxx_none fun ρ => by simp only [evX]
  | .ite _ _ _, _, _, _, _, _, _, _, _ => PXX.cg pxx_none fun ρ => by simp only [evX]
  | .lst _, _, _, _, _, _, _, _, _ => PXX.cg pxx_none fun ρ => by simp only [evX]
  | .idx _ _, _, _, _, _, _, _, _, _ => PXX.cg pxx_none fun ρ => by simp only [evX]
  | .idv _ _, _, _, _, _, _, _, _, _ => PXX.cg pxx_none fun ρ => by simp only [evX]
  | .slc _ _ _, _, _, _, _, _, _, _, _ => PXX.cg pxx_none fun ρ => by simp only [evX]
  | .blt b es, C, X, W, p, x, tk, e, h => by
    simp only [ckE] at h
    split at h
    · obtain ⟨h1, h2⟩ := ba2 h
      obtain ⟨h2, h3⟩ := ba2 h2
      have e1 := of_decide_eq_true h1
      subst e1
      exact PXX.cg (callx_bl p x h2 (ckPs_all h3) (sXp es p x tk h3) fun z ρ => by
        subst z
        cases es with
        | nil => simp only [evXs]
        | star a b => simp only [evXs]
        | cons a b => simp [ckPs] at h3) fun ρ => by simp only [evX]
    · cases h
  | .isi _ _, _, _, _, _, _, _, _, _ => PXX.cg pxx_none fun ρ => by simp only [evX]
  | .fld _ _, _, _, _, _, _, _, _, _ => PXX.cg pxx_none fun ρ => by simp only [evX]
  | .flv _ _, _, _, _, _, _, _, _, _ => PXX.cg pxx_none fun ρ => by simp only [evX]
  | .comp _ _ _ _, _, _, _, _, _, _, _, _ => PXX.cg pxx_none fun ρ => by simp only [evX]
  | .gti o b, C, X, W, p, x, tk, e, h => by
    simp only [ckE] at h
    split at h
    · obtain ⟨h1, h2⟩ := ba2 h
      obtain ⟨h2, h3⟩ := ba2 h2
      have ia := sE o p x h2
      have ib := sE b p x h3
      exact PXX.cg (pxx_gti (Φ := Φ.1) (Ψ := Φ.2) (ar := arOf T) (fun f ds r h => p.arityX h) ia.px ib.px fun c f mem => gti_pe p (L2N.passAt tk) h1 ia.px.pe ib.px.pe c f mem) fun ρ => by simp only [evX]
    · cases h
  | .oeq _ _, _, _, _, _, _, _, _, _ => PXX.cg pxx_none fun ρ => by simp only [evX]
  | .plc _, _, _, _, _, _, _, _, _ => PXX.cg pxx_none fun ρ => by simp only [evX]
  | .lrg _, _, _, _, _, _, _, _, _ => PXX.cg pxx_none fun ρ => by simp only [evX]
  | .dic0, _, _, _, _, _, _, _, _ => PXX.cg pxx_none fun ρ => by simp only [evX]
  | .lnv _, _, _, _, _, _, _, _, _ => PXX.cg pxx_none fun ρ => by simp only [evX]
  | .bor _, _, _, _, _, _, _, _, _ => PXX.cg pxx_none fun ρ => by simp only [evX]
  | .comp2 _ _ _ _ _ _, _, _, _, _, _, _, _, _ => PXX.cg pxx_none fun ρ => by simp only [evX]
theorem sXp : ∀ (as : Es) {C : SC} {X : Cx} {W : WX}, XP T Φ k X → XC C X → L2N.Takes X W → ∀ {es : List Expr}, ckPs T C as es = true → PXXs X W es (evXs (Gam T Φ) as)
  | .nil, _, _, _, _, _, _, _, _ => PXXs.cg pxxs_none fun ρ => by simp only [evXs]
  | .star _ _, _, _, _, _, _, _, _, _ => PXXs.cg pxxs_none fun ρ => by simp only [evXs]
  | .cons a as, C, X, W, p, x, tk, es, h => by
    simp only [ckPs] at h
    split at h
    · obtain ⟨h1, h2⟩ := ba2 h
      obtain ⟨h2, h3⟩ := ba2 h2
      exact PXXs.cg (pxxs_cons (sE a p x h2).px (sX a p x tk h2) (sXp as p x tk h3) (star_no h1)) fun ρ => by simp only [evXs]; rfl
    · cases h
theorem sXs : ∀ (as : Es) {C : SC} {X : Cx} {W : WX}, XP T Φ k X → XC C X → L2N.Takes X W → ∀ {es : List Expr}, ckEs T C as es = true → PXXs X W es (evXs (Gam T Φ) as)
  | .nil, _, _, _, _, _, _, _, _ => PXXs.cg pxxs_none fun ρ => by simp only [evXs]
  | .star _ _, _, _, _, _, _, _, _, _ => PXXs.cg pxxs_none fun ρ => by simp only [evXs]
  | .cons a as, C, X, W, p, x, tk, es, h => by
    simp only [ckEs] at h
    split at h
    · obtain ⟨h1, h2⟩ := ba2 h
      obtain ⟨h2, h3⟩ := ba2 h2
      exact PXXs.cg (pxxs_cons (sE a p x h2).px (sX a p x tk h2) (sXs as p x tk h3) (star_no h1)) fun ρ => by simp only [evXs]; rfl
    · cases h
end
/-! ### suites -/
/-- what a suite knows of the exception that it holds -/
structure ZIn (T : Tab) (K : PySem.W.Frag) (sl : Option Nat) (a : Addr) (cls : Value) (d : Option Addr) (x : Exn) (Gf : Hp) (ts : List Root) (σ : L2.St) : Prop where
  cl : cls = .ref (He.ga K x.c)
  tb : ∃ q ∈ T.xt, q.1 = x.c
  sl : ∀ i, sl = some i → σ[i]? = some (some (.ref a))
  fd : match x.a with
    | none => d = none
    | some (f, y) => ∃ dd v, d = some dd ∧ Gf dd = some (.xd [(f, v)]) ∧ tmp v (share y) ∈ ts
theorem ZIn.more {K : PySem.W.Frag} {sl : Option Nat} {a : Addr} {cls : Value} {d : Option Addr} {x : Exn} {Gf : Hp} {ts : List Root} {σ : L2.St} (h : ZIn T K sl a cls d x Gf ts σ) (r : Root) : ZIn T K sl a cls d x Gf (r :: ts) σ := by
  obtain ⟨h1, h0, h2, h3⟩ := h
  refine ⟨h1, h0, h2, ?_⟩
  obtain ⟨c, o⟩ := x
  cases o with
  | none => exact h3
  | some p =>
    obtain ⟨dd, v, e1, e2, e3⟩ := h3
    exact ⟨dd, v, e1, e2, List.mem_cons_of_mem _ e3⟩
def tZ (T : Tab) (K : PySem.W.Frag) (sl : Option Nat) (a : Addr) (cls : Value) (d : Option Addr) (ev : Exn → Option D) : TE := fun σ H Q => ∃ x Gf N ts ρ, SR K Gf N H (ts ++ σ.zip ρ) ∧ ZIn T K sl a cls d x Gf ts σ ∧ ∃ y, ev x = some y ∧ ∀ v H', SR K Gf N H' (tmp v y :: (ts ++ σ.zip ρ)) → Q v H'
def tZs (T : Tab) (K : PySem.W.Frag) (sl : Option Nat) (a : Addr) (cls : Value) (d : Option Addr) (ev : Exn → Option (List D)) : TA := fun σ H Q => ∃ x Gf N ts ρ, SR K Gf N H (ts ++ σ.zip ρ) ∧ ZIn T K sl a cls d x Gf ts σ ∧ ∃ ys, ev x = some ys ∧ ∀ vs H', vs.length = ys.length → SR K Gf N H' (tmps vs ys ++ (ts ++ σ.zip ρ)) → Q vs H'
/-- Gf's objects stand -/
theorem SR.stands {K : PySem.W.Frag} {Gf H : Hp} {N : List Addr} {rs : List Root} {b : Addr} {o : HO} (h : SR K Gf N H rs) (e : Gf b = some o) : H b = some o := by
  obtain ⟨_, F, _, _, g⟩ := h
  exact (hid_some.mp (g b o e)).2
theorem SR.again {K : PySem.W.Frag} {Gf H : Hp} {N : List Addr} {rs : List Root} {v : V} {y : D} (h : SR K Gf N H rs) (m : tmp v (share y) ∈ rs) : SR K Gf N H (tmp v (share y) :: rs) := by
  obtain ⟨l1, l2, rfl⟩ := List.append_of_mem m
  exact (SR.dup (SR.toFront h) (share_share y)).perm (.cons _ List.perm_middle.symm)
section
variable {X : Cx} {C : SC} {sl : Option Nat} {a : Addr} {oe : Obj} {cls : Value} {d : Option Addr}
/-- the context of a suite -/
structure XZ (T : Tab) (Φ : Fs × Fx) (k : Nat) (C : SC) (Y : Cx) (a : Addr) (oe : Obj) (cls : Value) (d : Option Addr) : Prop where
  c : XC0 C Y
  hp : (a, oe) ∈ Y.pn
  hz : L2N.Zn cls d oe
  hf : ∃ fv, oe.data = .fields fv
  xg : ∀ q ∈ T.xt, Y.mg q.1 = some (.ref (He.ga Y.K q.1)) ∧ FX.XFacts Y.K (He.ga Y.K q.1)
  xk : ∀ q ∈ T.xt, (∀ r ∈ T.xt, PySem.W.kitOne Y.K (.ref (He.ga Y.K q.1)) (.ref (He.ga Y.K r.1)) = some (q.2.contains r.1)) ∧ PySem.W.kitOne Y.K (.ref (He.ga Y.K q.1)) (.type "ValueError") = some (q.2.contains ("ValueError" : Str))
  xn : ∀ q ∈ T.xt, ∀ r ∈ T.xi, PySem.W.findIn Y.K (.ref (He.ga Y.K q.1)) r.2 = some none
  xv : Y.mg "ValueError" = none
  fi : Y.mg "isinstance" = none
  isn : ∀ f ∈ T.isn, ∀ (x : Str) (e : Expr) (te : TE) (q pos : Pos), (T.fns[f]?).map (·.at_) = some (x, none) → glB C x = true → noStar e = true → PE Y e te → PE Y (.Call (.Name x q) [e] [] pos) (fun σ H Q => te σ H fun v H1 => ∃ b, intV v = some b ∧ Q (.bl b) H1)
theorem nm_slot {x : Str} (h : nmOk C sl x = true) : ∃ i, sl = some i ∧ nameOk C i x = true := by
  unfold nmOk at h
  split at h
  · exact ⟨_, rfl, h⟩
  · cases h
theorem any_mem {α : Type} {l : List α} {f : α → Bool} (h : l.any f = true) : ∃ x ∈ l, f x = true := List.any_eq_true.mp h
theorem isX_some {c c' : Str} {b : Bool} (h : isX T.xt c c' = some b) : ∃ q ∈ T.xt, q.1 = c ∧ q.2.contains c' = b := by
  unfold isX at h
  obtain ⟨l, e, rfl⟩ := mpd h
  have : ∀ (xs : List (Str × List Str)), xs.lookup c = some l → (c, l) ∈ xs := by
    intro xs
    induction xs with
    | nil => intro z; cases z
    | cons p xs ih =>
      obtain ⟨c1, l1⟩ := p
      intro z
      simp only [List.lookup] at z
      split at z
      · rename_i hc
        have : c = c1 := by simpa using hc
        cases z; subst this; exact List.mem_cons_self ..
      · exact List.mem_cons_of_mem _ (ih z)
  exact ⟨(c, l), this _ e, rfl, rfl⟩
mutual
theorem sSE : ∀ (s : SE) {Y : Cx}, XZ T Φ k C Y a oe cls d → ∀ {e : Expr}, ckSE T C sl s e = true → PE Y e (tZ T Y.K sl a cls d fun x => evSE (Gam T Φ) x s)
  | .cst c, Y, z, e, h => by
    simp only [ckSE] at h
    split at h
    · rename_i kc j pos
      have key : ∀ {v : V}, Flat v (evCst c) → PE Y (.Constant kc j pos) (tC v) → PE Y (.Constant kc j pos) (tZ T Y.K sl a cls d fun x => evSE (Gam T Φ) x (.cst c)) := fun {v} fl h => pe_imp h fun σ H Q ⟨x, Gf, N, ts, ρ, hS, zi, y, e, q⟩ => by
        simp only [evSE] at e
        cases e
        exact q _ _ (hS.flat fl)
      cases c <;> cases kc <;> simp only [cstOk, Bool.false_eq_true] at h <;> first
        | exact key .non pe_non
        | (have := of_decide_eq_true h; subst this; exact key (.bl _) pe_bl)
        | (have := of_decide_eq_true h; subst this; exact key (.int _) pe_int)
        | (have := of_decide_eq_true h; subst this; exact key (.str _) pe_str)
    · cases h
  | .fld f, Y, z, e, h => by
    simp only [ckSE] at h
    split at h
    · rename_i x0 p1 g p2
      obtain ⟨h1, r2⟩ := ba2 h
      obtain ⟨h3, h4⟩ := ba2 r2
      have e1 := of_decide_eq_true h1
      subst e1
      obtain ⟨i, rfl, hi⟩ := nm_slot h3
      obtain ⟨r, hr, er⟩ := any_mem h4
      have er := of_decide_eq_true er
      refine pe_any fun σ H Q ⟨x, Gf, N, ts, ρ, hS, zi, y, e, q⟩ => ?_
      obtain ⟨c, o⟩ := x
      simp only [evSE] at e
      obtain ⟨⟨f1, y1⟩, e1, eI⟩ := bnd e
      clear e
      subst e1
      simp only at eI
      split at eI
      · rename_i ef
        subst ef
        cases eI
        obtain ⟨dd, v, rfl, e2, e3⟩ := zi.fd
        obtain ⟨q0, hq0, eq0⟩ := zi.tb
        simp only at eq0
        subst eq0
        have ecl := zi.cl
        simp only at ecl
        subst ecl
        have hno := z.xn q0 hq0 r hr
        rw [er] at hno
        refine ⟨_, FX.pe_xfl (z.xg q0 hq0).2 hno z.hp z.hz.zc z.hf (z.c.var hi), ?_⟩
        exact ⟨_, zi.sl i rfl, rfl, _, v, hS.stands e2, by simp [List.lookup], q v H (hS.again (List.mem_append_left _ e3))⟩
      · cases eI
    · cases h
  | .isx c, Y, z, e, h => by
    simp only [ckSE] at h
    split at h
    · rename_i f0 p1 x0 p2 y0 p3 p4
      obtain ⟨h1, r1⟩ := ba2 h
      obtain ⟨h2, r2⟩ := ba2 r1
      obtain ⟨h3, r3⟩ := ba2 r2
      obtain ⟨h4, r4⟩ := ba2 r3
      obtain ⟨h5, h6⟩ := ba2 r4
      have e1 := of_decide_eq_true h1
      have e4 := of_decide_eq_true h4
      subst e1
      subst e4
      obtain ⟨i, rfl, hi⟩ := nm_slot h3
      obtain ⟨g1, g2⟩ := z.c.gl h2
      obtain ⟨g3, g4⟩ := z.c.gl h5
      refine pe_any fun σ H Q ⟨x, Gf, N, ts, ρ, hS, zi, y, e, q⟩ => ?_
      simp only [evSE] at e
      obtain ⟨b, e2, rfl⟩ := mpd e
      obtain ⟨q0, hq0, eq0, eb⟩ := isX_some e2
      have ecl := zi.cl
      rw [← eq0] at ecl
      subst ecl
      have hd : ∀ dd, d = some dd → ∃ fs, H dd = some (.xd fs) := fun dd ed => by
        have zf := zi.fd
        obtain ⟨c, o⟩ := x
        cases o with
        | none => simp only at zf; rw [zf] at ed; cases ed
        | some p =>
          obtain ⟨dd', v, e5, e6, _⟩ := zf
          rw [e5] at ed; cases ed
          exact ⟨_, hS.stands e6⟩
      have fin : ∀ {v : V} {cv : Value}, PE Y (.Name y0 p3) (tC v) → (∀ u, RelV v u → u = cv) → PySem.W.kitOne Y.K (.ref (He.ga Y.K q0.1)) cv = some b → ∃ t, PE Y (.Call (.Name "isinstance" p1) [.Name x0 p2, .Name y0 p3] [] p4) t ∧ t σ H Q := fun {v cv} hv hu hk =>
        ⟨_, pe_callB (FX.call_xis (z.xg q0 hq0).2 z.hp z.hz.zc z.hf) g1 z.fi PyProof.Rows.Boot.«isinstance» (pa_cons (z.c.var hi) (pa_cons hv pa_nil rfl) rfl) (by decide) g2 rfl rfl, _, zi.sl i rfl, v, cv, b, rfl, hu, hk, hd, q _ _ (hS.flat (.bl b))⟩
      unfold xName at h6
      rcases Bool.or_eq_true_iff.mp h6 with h7 | h7
      · obtain ⟨r, hr, er⟩ := any_mem h7
        have er := of_decide_eq_true er
        have hm := (z.xg r hr).1
        have hk := (z.xk q0 hq0).1 r hr
        rw [er] at hm hk
        rw [eb] at hk
        exact fin (v := .ref (He.ga Y.K y0)) (pe_glob g3 hm rfl g4) (fun u hu => hu) hk
      · have e7 := of_decide_eq_true h7
        subst e7
        have hk := (z.xk q0 hq0).2
        rw [eb] at hk
        exact fin (v := .ty "ValueError") (pe_bltn g3 z.xv PyProof.Rows.Boot.«ValueError» rfl (by decide) g4) (fun u hu => hu) hk
    · cases h
  | .tup es, Y, z, e, h => by
    simp only [ckSE] at h
    split at h
    · refine pe_imp (pe_tup (sSEs es z h)) fun σ H Q ⟨x, Gf, N, ts, ρ, hS, zi, y, e, q⟩ => ?_
      simp only [evSE] at e
      obtain ⟨ds, e1, e⟩ := bnd e
      split at e
      · rename_i hl
        cases e
        exact ⟨x, Gf, N, ts, ρ, hS, zi, ds, e1, fun vs H1 l h1 => ⟨by rw [l, sizeLine_eq]; exact hl, fun p hp => q _ _ (h1.newT l hp)⟩⟩
      · cases e
    · cases h
  | .and s1 s2, Y, z, e, h => by
    simp only [ckSE] at h
    split at h
    · obtain ⟨h1, r1⟩ := ba2 h
      obtain ⟨h2, h3⟩ := ba2 r1
      have e1 := of_decide_eq_true h1
      subst e1
      refine pe_imp (pe_and (sSE s1 z h2) (pe_one (sSE s2 z h3))) fun σ H Q ⟨x, Gf, N, ts, ρ, hS, zi, y, e, q⟩ => ?_
      simp only [evSE] at e
      obtain ⟨d1, e1, e⟩ := bnd e
      refine ⟨x, Gf, N, ts, ρ, hS, zi, d1, e1, fun v H1 hv => ?_⟩
      cases d1 with
      | bl b =>
        refine ⟨b, hv.isBl, ?_⟩
        cases b with
        | true =>
          refine iteT ?_
          obtain ⟨d2, e2, e⟩ := bnd e
          refine ⟨x, Gf, N, ts, ρ, hv.drop, zi, d2, e2, fun w H2 hw => q w H2 ?_⟩
          cases d2 with
          | bl k => cases e; exact hw
          | _ => cases e
        | false =>
          cases e
          refine iteF (q _ _ ?_)
          rw [← hv.isBl]; exact hv
      | _ => cases e
    · cases h
  | .isint f s, Y, z, e, h => by
    simp only [ckSE] at h
    split at h
    · obtain ⟨h1, r1⟩ := ba2 h
      obtain ⟨h2, r2⟩ := ba2 r1
      obtain ⟨h3, r3⟩ := ba2 r2
      obtain ⟨h4, h5⟩ := ba2 r3
      refine pe_imp (z.isn f (by simpa using h1) _ _ _ _ _ (of_decide_eq_true h2) h3 h4 (sSE s z h5)) fun σ H Q ⟨x, Gf, N, ts, ρ, hS, zi, y, e, q⟩ => ?_
      simp only [evSE] at e
      obtain ⟨d1, e1, e⟩ := bnd e
      obtain ⟨b, e2, rfl⟩ := mpd e
      refine ⟨x, Gf, N, ts, ρ, hS, zi, d1, e1, fun v H1 hv => ⟨b, ?_, q _ _ (hv.drop.flat (.bl b))⟩⟩
      cases d1 <;> simp only [intO, reduceCtorEq] at e2
      · rw [hv.isNon]; exact e2
      · rw [hv.isBl]; exact e2
      · rw [hv.isInt]; exact e2
      · rw [hv.isStr]; exact e2
    · cases h
theorem sSEs : ∀ (ss : SEs) {Y : Cx}, XZ T Φ k C Y a oe cls d → ∀ {es : List Expr}, ckSEs T C sl ss es = true → PA Y es (tZs T Y.K sl a cls d fun x => evSEs (Gam T Φ) x ss)
  | .nil, Y, z, es, h => by
    simp only [ckSEs] at h
    split at h
    · exact pa_imp pa_nil fun σ H Q ⟨x, Gf, N, ts, ρ, hS, zi, y, e, q⟩ => by
        simp only [evSEs] at e
        cases e
        exact q [] H rfl hS
    · cases h
  | .cons s ss, Y, z, es, h => by
    simp only [ckSEs] at h
    split at h
    · obtain ⟨h1, r1⟩ := ba2 h
      obtain ⟨h2, h3⟩ := ba2 r1
      refine pa_imp (pa_cons (sSE s z h2) (sSEs ss z h3) (star_no h1)) fun σ H Q ⟨x, Gf, N, ts, ρ, hS, zi, y, e, q⟩ => ?_
      simp only [evSEs] at e
      obtain ⟨d1, e1, e⟩ := bnd e
      obtain ⟨ds, e2, rfl⟩ := mpd e
      refine ⟨x, Gf, N, ts, ρ, hS, zi, d1, e1, fun v H1 hv => ⟨x, Gf, N, tmp v d1 :: ts, ρ, hv, zi.more _, ds, e2, fun vs H2 l h2 => q (v :: vs) H2 (by simp [l]) ?_⟩⟩
      exact SR.toFront (rs' := tmps vs ds) h2
    · cases h
end
end
end FL

/-! X5: try. -/
namespace FL
open PySem PySem.Spec PyProof.Rows L2 StX
variable {T : Tab} {Φ : Fs × Fx} {k : Nat}
section
variable {K : PySem.W.Frag} {G H Gf : Hp} {N : List Addr} {rs ts : List Root}
mutual
theorem Rep.domX : ∀ {v : V} {d : D} {F : List Addr}, Rep K G H v d F → ∀ a ∈ F, ∀ fs, H a ≠ some (.xd fs)
  | _, _, _, .non => fun _ h => by simp at h
  | _, _, _, .bl b => fun _ h => by simp at h
  | _, _, _, .int i => fun _ h => by simp at h
  | _, _, _, .str x => fun _ h => by simp at h
  | _, _, _, .hole v => fun _ h => by simp at h
  | _, _, _, .dic s => fun _ h => by simp at h
  | _, _, _, .any v => fun _ h => by simp at h
  | _, _, _, .tup s r => Reps.domX r
  | _, _, _, .lstF s r => fun _ h => by simp at h
  | _, _, _, .lstS s r => fun _ h => by simp at h
  | _, _, _, .lstO (a := a) s r => fun b h => by
    rcases List.mem_cons.mp h with e | h
    · subst e; intro fs z; rw [s] at z; cases z
    · exact Reps.domX r b h
  | _, _, _, .objS s l r => fun _ h => by simp at h
  | _, _, _, .objO (a := a) s l r => fun b h => by
    rcases List.mem_cons.mp h with e | h
    · subst e; intro fs z; rw [s] at z; cases z
    · exact Reps.domX r b h
theorem Reps.domX : ∀ {vs : List V} {ds : List D} {F : List Addr}, Reps K G H vs ds F → ∀ a ∈ F, ∀ fs, H a ≠ some (.xd fs)
  | _, _, _, .nil => fun _ h => by simp at h
  | _, _, _, .cons r t => fun b h => (List.mem_append.mp h).elim (fun z => Rep.domX r b z) fun z => Reps.domX t b z
end
theorem RepO.domX {F : List Addr} (r : RepO K G H rs F) : ∀ a ∈ F, ∀ fs, H a ≠ some (.xd fs) := by
  induction r with
  | nil => exact fun _ h => by simp at h
  | skip _ ih => exact ih
  | cons x _ ih => exact fun b h => (List.mem_append.mp h).elim (fun z => x.domX b z) fun z => ih b z
/-- an exception's dict is kept, too -/
theorem SR.keepX {dd : Addr} {fs : List (Str × V)} (h : SR K Gf N H rs) (e : H dd = some (.xd fs)) : SR K (upd Gf dd (.xd fs)) N H rs := by
  obtain ⟨n, F, nd, r, g⟩ := h
  refine ⟨fun a ha => ?_, F, nd, r, fun a o ea => ?_⟩
  · by_cases z : a = dd
    · subst z; exact ⟨_, upd_same⟩
    · rw [upd_ne z]; exact n a ha
  · by_cases z : a = dd
    · subst z
      rw [upd_same] at ea
      cases ea
      exact hid_some.mpr ⟨fun m => r.domX a m fs e, e⟩
    · rw [upd_ne z] at ea
      exact g a o ea
theorem SR.less {Gf' : Hp} (h : SR K Gf' N H rs) (n : ∀ a ∈ N, ∃ o, Gf a = some o) (l : Le Gf Gf') : SR K Gf N H rs := by
  obtain ⟨_, F, nd, r, g⟩ := h
  exact ⟨n, F, nd, r, l.trans g⟩
theorem SR.le_keepX {dd : Addr} {fs : List (Str × V)} (h : SR K Gf N H rs) (e : H dd = some (.xd fs)) : Le Gf (upd Gf dd (.xd fs)) := fun a o ea => by
  by_cases z : a = dd
  · subst z
    have := h.stands ea
    rw [e] at this
    cases this
    exact upd_same
  · rw [upd_ne z]; exact ea
end
/-! ### one suite -/
def tSu (T : Tab) (Φ : Fs × Fx) (K : PySem.W.Frag) (io : List Nat) (sl : Option Nat) (s : SS) (a : Addr) (cls : Value) (d : Option Addr) : TS := fun D σ H => ∃ x Gf N ts ρ, σ.length = ρ.length ∧ SR K Gf N H (ts ++ σ.zip ρ) ∧ ZIn T K sl a cls d x Gf ts σ ∧
  ∃ fl, exSS (Gam T Φ) x ρ s = some fl ∧ FlowOk K Gf N ts io (fun _ _ _ _ => False) σ D fl
section
variable {C : SC} {io : List Nat} {sl : Option Nat} {a : Addr} {oe : Obj} {cls : Value} {d : Option Addr}
theorem sSS (s : SS) {Y : Cx} (z : XZ T Φ k C Y a oe cls d) {st : Stmt} (h : ckSS T io C sl s st = true) : PSs Y [st] (tSu T Φ Y.K io sl s a cls d) := by
  refine pss_imp (t := tSeq (tSu T Φ Y.K io sl s a cls d) tNext) (pss_cons ?_ pss_nil) fun D σ H q => q
  cases s with
  | set i e =>
    simp only [ckSS] at h
    split at h
    · rename_i x0 p0 v p1
      obtain ⟨h1, r1⟩ := ba2 h
      obtain ⟨h2, r2⟩ := ba2 r1
      obtain ⟨h3, r3⟩ := ba2 r2
      obtain ⟨h4, h5⟩ := ba2 r3
      have hio : i ∉ io := by simpa using h2
      refine ps_imp (ps_asg (sSE e z h5) (z.c.store h1) (swaps_of h3 : swapsWith v (some (.Name x0 p0)) p1.line Y.env = pure false) (by cases v <;> rfl) rfl) fun D σ H ⟨x, Gf, N, ts, ρ, hl, hS, zi, fl, e, q⟩ => ?_
      · simp only [exSS] at e
        obtain ⟨y, e1, e⟩ := bnd e
        obtain ⟨ρ1, e2, rfl⟩ := mpd e
        obtain ⟨hi, rfl⟩ := putS_some e2
        refine ⟨x, Gf, N, ts, ρ, hS, zi, y, e1, fun w H1 h1 => ?_⟩
        exact q _ _ ((Same.set (is := [i]) (by simp)).agree fun j hj => by simp at hj; subst hj; exact hio) (by rw [List.length_set, len_set]; exact hl) (h1.store hl hi)
    · cases h
  | ret e =>
    simp only [ckSS] at h
    split at h
    · refine ps_imp (ps_ret (sSE e z h)) fun D σ H ⟨x, Gf, N, ts, ρ, hl, hS, zi, fl, e, q⟩ => ?_
      simp only [exSS] at e
      obtain ⟨y, e1, rfl⟩ := mpd e
      exact ⟨x, Gf, N, ts, ρ, hS, zi, y, e1, fun w H1 h1 => q w σ H1 .refl hl h1⟩
    · cases h
/-! ### the clauses -/
def clOf (T : Tab) (Φ : Fs × Fx) (K : PySem.W.Frag) (io : List Nat) (h : Hd) : FX.Clause := ⟨.ref (He.ga K h.c), h.sl, tSu T Φ K io h.sl h.s⟩
structure HdOk (T : Tab) (io : List Nat) (n : Nat) (h : Hd) : Prop where
  xt : ∃ q ∈ T.xt, q.1 = h.c
  sl : ∀ i, h.sl = some i → i < n ∧ i ∉ io
  ne : ∀ i e, h.s = .set i e → h.sl ≠ some i
theorem slots_in {K : PySem.W.Frag} {Gf H : Hp} {N : List Addr} {ts : List Root} {σ : L2.St} {ρ : Env} (sl : Option Nat) (a : Addr) (hl : σ.length = ρ.length) (h : SR K Gf N H (ts ++ σ.zip ρ)) :
    SR K Gf N H (ts ++ (FX.inSlot sl a σ).zip (slOut ρ sl)) ∧ (FX.inSlot sl a σ).length = (slOut ρ sl).length := by
  cases sl with
  | none => exact ⟨h, hl⟩
  | some i =>
    refine ⟨?_, by simp [FX.inSlot, slOut, hl]⟩
    show SR K Gf N H (ts ++ (σ.set i (some (.ref a))).zip (ρ.set i none))
    by_cases hi : i < σ.length
    · refine SR.slots (h.forget hi) (by simp) fun j => ?_
      by_cases hj : i = j
      · subst hj; exact .inl (List.getElem?_set_self (by omega))
      · exact .inr (List.getElem?_set_ne hj)
    · rw [List.set_eq_of_length_le (by omega), List.set_eq_of_length_le (by omega)]; exact h
theorem hd_ok {K : PySem.W.Frag} {Gf : Hp} {N : List Addr} {ts : List Root} {io : List Nat} {W : WX} {σ σ' : L2.St} {D : Ends} {x : Exn} {ρ1 : Env} {fl : Flow} {cls : Value} {d : Option Addr} {H' : Hp} {n : Nat}
    (xe : ∀ q ∈ T.xt, ∀ r ∈ T.xt, PySem.W.exmOne K (.ref (He.ga K q.1)) (.ref (He.ga K r.1)) = some (q.2.contains r.1)) (hn : σ.length = n) : ∀ (hs : List Hd), (∀ h ∈ hs, HdOk T io n h) → exHd (Gam T Φ) x ρ1 hs = some fl → FlowOk K Gf N ts io W σ D fl → Agree io σ σ' → σ'.length = ρ1.length → XSR K Gf N H' cls d x (ts ++ σ'.zip ρ1) →
    FX.wCl K W D (hs.map (clOf T Φ K io)) cls d σ' H'
  | [], _, e, q, ag, l, xs => by
    simp only [exHd] at e
    cases e
    exact q cls d σ' H' ag l xs
  | h :: hs, ok, e, q, ag, l, xs => by
    simp only [exHd] at e
    obtain ⟨b, e1, e⟩ := bnd e
    obtain ⟨q0, hq0, eq0, eb⟩ := isX_some e1
    have ho := ok h (by simp)
    obtain ⟨r0, hr0, er0⟩ := ho.xt
    have ecl := xs.1
    have em := xe q0 hq0 r0 hr0
    rw [eq0, er0, eb] at em
    refine ⟨b, by rw [ecl]; exact em, fun eb1 a na => ?_, fun eb1 => ?_⟩
    · subst eb1
      rw [if_pos rfl] at e
      have zi0 : ∀ (Gf' : Hp) (ts' : List Root), (match x.a with
          | none => d = none
          | some (f, y) => ∃ dd v, d = some dd ∧ Gf' dd = some (.xd [(f, v)]) ∧ tmp v (share y) ∈ ts') → ZIn T K h.sl a cls d x Gf' ts' (FX.inSlot h.sl a σ') := fun Gf' ts' zf => ⟨ecl, ⟨q0, hq0, eq0⟩, fun i ei => by
          have := (ho.sl i ei).1
          rw [ei]
          show (σ'.set i (some (.ref a)))[i]? = _
          rw [List.getElem?_set_self (by rw [ag.1]; omega)], zf⟩
      have agI : Agree io σ (FX.inSlot h.sl a σ') := by
        cases es : h.sl with
        | none => exact ag
        | some i =>
          exact ag.trans ⟨by simp [FX.inSlot], fun j hj => by
            show (σ'.set i _)[j]? = _
            exact List.getElem?_set_ne fun (z : i = j) => (ho.sl i es).2 (z ▸ hj)⟩
      have fin : ∀ (Gf' : Hp) (ex : List Root), SR K Gf' N H' ((ex ++ ts) ++ σ'.zip ρ1) → (∀ a ∈ N, ∃ o, Gf a = some o) → Le Gf Gf' → ZIn T K h.sl a cls d x Gf' (ex ++ ts) (FX.inSlot h.sl a σ') → tSu T Φ K io h.sl h.s a cls d (FX.endsOf h.sl D) (FX.inSlot h.sl a σ') H' := by
        intro Gf' ex hS nn le zi
        obtain ⟨hS', l'⟩ := slots_in h.sl a l hS
        refine ⟨x, Gf', N, ex ++ ts, slOut ρ1 h.sl, l', hS', zi, fl, e, ?_⟩
        cases hss : h.s with
        | set j se =>
          rw [hss] at e
          simp only [exSS] at e
          obtain ⟨y, e3, e⟩ := bnd e
          obtain ⟨ρ2, e4, rfl⟩ := mpd e
          obtain ⟨hj, rfl⟩ := putS_some e4
          intro σ3 H3 ag3 l3 h3
          have h4 : SR K Gf N H3 (ts ++ σ3.zip ((slOut ρ1 h.sl).set j (some y))) := by
            rw [List.append_assoc] at h3
            exact (h3.dropL).less nn le
          cases es : h.sl with
          | none =>
            rw [es] at h4 l3 ag3 agI
            have := q σ3 H3 (by rw [es] at *; exact agI.trans ag3) (by rw [es]; exact l3) (by rw [es]; exact h4)
            exact this
          | some i =>
            have hne : i ≠ j := fun z => ho.ne j se hss (by rw [es, z])
            have := q (σ3.set i none) H3 ((agI.trans ag3).trans ⟨by simp, fun m hm => List.getElem?_set_ne fun (z : i = m) => (ho.sl i es).2 (z ▸ hm)⟩) (by simpa using l3) (by
              refine SR.slots h4 (by simp) fun m => ?_
              by_cases hm : i = m
              · subst hm
                refine .inl ?_
                rw [List.getElem?_set_ne (Ne.symm hne), es]
                show (ρ1.set i none)[i]? = _
                exact List.getElem?_set_self (by have := (ho.sl i es).1; rw [← l, ag.1]; omega)
              · exact .inr (List.getElem?_set_ne hm))
            exact this
        | ret se =>
          rw [hss] at e
          simp only [exSS] at e
          obtain ⟨y, e3, rfl⟩ := mpd e
          intro v σ3 H3 ag3 l3 h3
          have h4 : SR K Gf N H3 (tmp v y :: (ts ++ σ3.zip (slOut ρ1 h.sl))) := by
            have h5 : SR K Gf' N H3 (ex ++ tmp v y :: (ts ++ σ3.zip (slOut ρ1 h.sl))) := by
              rw [List.append_assoc] at h3
              exact SR.fromFront h3
            exact (h5.dropL).less nn le
          have := q v σ3 H3 (agI.trans ag3) l3 h4
          cases es : h.sl <;> exact this
      obtain ⟨c0, o0⟩ := x
      cases o0 with
      | none =>
        obtain ⟨_, hd, hS⟩ := xs
        exact fin Gf [] hS hS.1 Le.refl (zi0 Gf ts hd)
      | some p =>
        obtain ⟨_, dd, v, hd, ex, hS⟩ := xs
        refine fin (upd Gf dd (.xd [(p.1, v)])) [tmp v (share p.2)] ((hS.share1).keepX ex) hS.1 (hS.le_keepX ex) (zi0 _ _ ⟨dd, v, hd, upd_same, by simp⟩)
    · subst eb1
      rw [if_neg (by decide)] at e
      exact hd_ok xe hn hs (fun g hg => ok g (by simp [hg])) e q ag l xs
theorem pxs_try {X : Cx} {io : List Nat} {W : WX} {body : List Stmt} {h0 : ExceptHandler} {hds : List ExceptHandler} {pos : Pos} {xb : Env → Option Flow} {hs : List Hd} (hst : X.stack = X.env :: X.outer) (hfm : X.env.frame = some X.env.locals) (hN : X.N.Nodup) (tk : L2N.Takes X W)
    (xe : ∀ q ∈ T.xt, ∀ r ∈ T.xt, PySem.W.exmOne X.K (.ref (He.ga X.K q.1)) (.ref (He.ga X.K r.1)) = some (q.2.contains r.1))
    (hb : ∀ (W : WX) (pn : List (Addr × Obj)) (xe : Value → Shared → Prop), L2N.Takes (X.tr pn xe) W → PassesOwn (model X.prog X.w) X.A X.env xe → PSs (X.tr pn xe) body (tX X.K io W xb))
    (hh : FX.ClOk X (h0 :: hds) (hs.map (clOf T Φ X.K io))) (ok : ∀ h ∈ hs, HdOk T io X.N.length h) :
    PXS X io W (.Try body (h0 :: hds) [] [] pos) (fun ρ => (xb ρ).bind fun fl => match fl with
      | .ex x ρ1 => exHd (Gam T Φ) x ρ1 hs
      | fl => some fl) := ⟨fun pins s σ H Dn I q0 => by
  refine (FX.ps_try_mix (tb := fun W' => tX X.K io W' xb) hst hfm hN tk hb hh).run pins s σ H Dn I ?_
  have hl0 : σ.length = X.N.length := I.len
  obtain ⟨Gf, N, ts, ρ, hl, hS, fl, e, q⟩ := q0
  obtain ⟨f1, e1, e⟩ := bnd e
  refine ⟨Gf, N, ts, ρ, hl, hS, f1, e1, ?_⟩
  cases f1 with
  | nx ρ' => cases e; exact q
  | rt d ρ' => cases e; exact q
  | bk ρ' => cases e; exact q
  | ct ρ' => cases e; exact q
  | ex x ρ1 => exact fun cls d σ' H' ag l xs => hd_ok xe hl0 hs ok e q ag l xs⟩
end
end FL

/-! F17: what is checked is so: statements, defs, the whole table. -/
namespace FL
open PySem PySem.Spec PyProof.Rows L2 StX
variable {T : Tab} {Φ : Fs × Fx} {k : Nat}
theorem asg_one {X : Cx} {tg : Expr} (h : noStar tg = true) : (assignEach [tg] X.env).map (·.2) = [assign tg X.env] := by
  cases tg <;> first | rfl | cases h
theorem ckTg_star {C : SC} {t : Tg} {e : Expr} (h : ckTg C t e = true) : noStar e = true := by
  cases t <;> cases e <;> first | rfl | cases h
theorem swapped_no {tg v : Expr} {env : PySem.Env} (h : (notTuple tg || notTuple v) = true) (hl : ∀ ts p, tg ≠ .List ts p) : swappedStores [tg] v env = pure none := by
  cases tg <;> cases v <;> first | rfl | (exact absurd rfl (hl _ _)) | (cases h; done)
theorem swapped_subs {o1 r1 o2 r2 v : Expr} {q1 q2 q : Pos} {k : Nat} {env : PySem.Env} : swappedStores [.Tuple [.Subscript o1 r1 q1, .Subscript o2 r2 q2] k q] v env = pure none := by
  cases v <;> first | rfl | (unfold swappedStores; simp; done) | (unfold swappedStores; simp; split <;> first | rfl | (split <;> rfl))
theorem slots_no {t : Tg} {io : List Nat} (h : t.slots.all (fun i => !(io.contains i)) = true) : ∀ i ∈ t.slots, i ∉ io := fun i hi z => by
  have := List.all_eq_true.mp h i hi
  simp at this
  exact this z
theorem sole_of {tg v : Expr} {l : Nat} {env : PySem.Env} (h : notComp v = true) : swapsWithSole [tg] v l env = pure false := by
  show swapsWith v (some tg) l env = pure false
  exact swaps_of h
theorem sole_sub {o r v : Expr} {q : Pos} {l : Nat} {env : PySem.Env} : swapsWithSole [.Subscript o r q] v l env = pure false := by
  show swapsWith v (some (.Subscript o r q)) l env = pure false
  cases v <;> rfl
theorem swaps_attr {o v : Expr} {f : Str} {q : Pos} {l : Nat} {env : PySem.Env} : swapsWith v (some (.Attribute o f q)) l env = pure false := by
  cases v <;> rfl
theorem assign_sub {o r : Expr} {pos : Pos} {env : PySem.Env} {v : Value} (h : notSlice r = true) : assign (.Subscript o r pos) env v = (do
    let ov ← holding [v] (eval o env)
    let iv ← holding [v, ov] (eval r env)
    standAt pos
    holding [v, ov, iv] (setItem ov iv v)
    release [v, ov, iv] []) := by
  cases r <;> first | rfl | cases h
theorem tI_unshr {K : PySem.W.Frag} {ea : Env → Option (D × Env)} {σ : L2.St} {H : Hp} {Q : VK} (h : tI K (fun ρ => (ea ρ).map fun p => (share p.1, p.2)) σ H Q) : tI K ea σ H Q := by
  obtain ⟨Gf, N, ts, ρ, hl, hs, p, e, q⟩ := h
  obtain ⟨p0, e1, rfl⟩ := mpd e
  exact ⟨Gf, N, ts, ρ, hl, hs, p0, e1, fun v H' h1 => q v H' h1.share1⟩
theorem tI_unbor {K : PySem.W.Frag} {ea : Env → Option (D × Env)} {σ : L2.St} {H : Hp} {Q : VK} (h : tI K (borE ea) σ H Q) : tI K ea σ H Q := by
  obtain ⟨Gf, N, ts, ρ, hl, hs, p, e, q⟩ := h
  obtain ⟨ρ', e1, hc, e2⟩ := borE_some e
  refine ⟨H, N, [], viewD ρ, by rw [view_len]; exact hl, hs.view, _, e1, fun v H' h1 => q v H' ?_⟩
  rw [e2]
  exact hs.unview h1 hc
theorem lc0 {C : SC} {el : Expr} {scope : Scope} {pos : Pos} (a : E) (h : ckE T C a (.ListComp el [] scope pos) = true) : False := by
  cases a with
  | shr a => exact lc0 a (by simpa only [ckE] using h)
  | bor a => exact lc0 a (by simpa only [ckE] using h)
  | plc pl => cases pl <;> simp [ckE, ckPl] at h
  | _ => simp [ckE] at h
/-- the pieces of a checked comprehension -/
theorem comp_ok {C : SC} {X : Cx} (p : XP T Φ k X) (x : XC C X) {el tg itr : Expr} {ifs : List Expr} {as : Int} {scope : Scope} {pos : Pos} (a : E) (h : ckE T C a (.ListComp el [⟨tg, itr, ifs, as⟩] scope pos) = true) :
    ∃ elt t it cond, as = 0 ∧ CompOk X (evE (Gam T Φ) elt) t (evIt (Gam T Φ) it) (evC (Gam T Φ) cond) el tg itr ifs scope (ownOf C t) ∧ ∀ σ H Q, tI X.K (evE (Gam T Φ) a) σ H Q → tI X.K (compE t (evIt (Gam T Φ) it) (evC (Gam T Φ) cond) (evE (Gam T Φ) elt)) σ H Q := by
  cases a with
  | shr a =>
    obtain ⟨elt, t, it, cond, q1, q2, q3⟩ := comp_ok p x a (by simpa only [ckE] using h)
    refine ⟨elt, t, it, cond, q1, q2, fun σ H Q z => q3 σ H Q (tI_unshr ?_)⟩
    have : evE (Gam T Φ) (.shr a) = fun ρ => (evE (Gam T Φ) a ρ).map fun p => (share p.1, p.2) := by funext ρ; simp only [evE]
    rw [← this]; exact z
  | bor a =>
    obtain ⟨elt, t, it, cond, q1, q2, q3⟩ := comp_ok p x a (by simpa only [ckE] using h)
    refine ⟨elt, t, it, cond, q1, q2, fun σ H Q z => q3 σ H Q (tI_unbor ?_)⟩
    have : evE (Gam T Φ) (.bor a) = borE (evE (Gam T Φ) a) := by funext ρ; simp only [evE]; rfl
    rw [← this]; exact z
  | comp elt t it cond =>
    simp only [ckE] at h
    obtain ⟨h1, h2⟩ := ba2 h
    obtain ⟨h2, h3⟩ := ba2 h2
    obtain ⟨h3, h4⟩ := ba2 h3
    obtain ⟨h4, h5⟩ := ba2 h4
    obtain ⟨h5, h6⟩ := ba2 h5
    obtain ⟨h6, h7⟩ := ba2 h6
    obtain ⟨h7, h8⟩ := ba2 h7
    refine ⟨elt, t, it, cond, of_decide_eq_true h1, ⟨of_decide_eq_true h4, by rw [x.hN, x.sc]; exact blkOk_by h3, sI it p x h5, fun s H D cl fp => pg_of (x.blk s H scope D cl fp) h6,
      fun s H D cl fp => (sC cond (p.blk s H scope _ fp) (x.blk s H scope D cl fp) h7).1, fun s H D cl fp => (sE elt (p.blk s H scope _ fp) (x.blk s H scope D cl fp) h8).px.pe, (sC cond (p.blk X.s_0 X.H_0 scope _ []) (x.blk X.s_0 X.H_0 scope 0 [] []) h7).2, (sE elt (p.blk X.s_0 X.H_0 scope _ []) (x.blk X.s_0 X.H_0 scope 0 [] []) h8).px.ln, h2⟩, fun σ H Q z => ?_⟩
    have : evE (Gam T Φ) (.comp elt t it cond) = compE t (evIt (Gam T Φ) it) (evC (Gam T Φ) cond) (evE (Gam T Φ) elt) := by funext ρ; simp only [evE]; rfl
    rw [← this]; exact z
  | plc pl => cases pl <;> simp [ckE, ckPl] at h
  | _ => simp [ckE] at h
/-- a checked comprehension with two fors, as what a name gets -/
theorem comp2_ok {C : SC} {X : Cx} (p : XP T Φ k X) (x : XC C X) {el tg itr tg1 itr1 : Expr} {ifs ifs1 : List Expr} {as as1 : Int} {scope : Scope} {pos : Pos} (a : E) (h : ckE T C a (.ListComp el [⟨tg, itr, ifs, as⟩, ⟨tg1, itr1, ifs1, as1⟩] scope pos) = true) :
    ∃ te : TE, (∀ σ H Q, tI X.K (evE (Gam T Φ) a) σ H Q → te σ H Q) ∧ ∀ (i : Nat) (y : Str) (py spos : Pos), X.N[i]? = some y → X.env.scope.names.lookup y = some .local → swapsWith (.ListComp el [⟨tg, itr, ifs, as⟩, ⟨tg1, itr1, ifs1, as1⟩] scope pos) (some (.Name y py)) spos.line X.env = pure true →
      PS X (.Assign [.Name y py] (.ListComp el [⟨tg, itr, ifs, as⟩, ⟨tg1, itr1, ifs1, as1⟩] scope pos) spos) (tAsg te (gName i)) := by
  cases a with
  | shr a =>
    obtain ⟨te, q3, q4⟩ := comp2_ok p x a (by simpa only [ckE] using h)
    refine ⟨te, fun σ H Q z => q3 σ H Q (tI_unshr ?_), q4⟩
    have : evE (Gam T Φ) (.shr a) = fun ρ => (evE (Gam T Φ) a ρ).map fun p => (share p.1, p.2) := by funext ρ; simp only [evE]
    rw [← this]; exact z
  | bor a =>
    obtain ⟨te, q3, q4⟩ := comp2_ok p x a (by simpa only [ckE] using h)
    refine ⟨te, fun σ H Q z => q3 σ H Q (tI_unbor ?_), q4⟩
    have : evE (Gam T Φ) (.bor a) = borE (evE (Gam T Φ) a) := by funext ρ; simp only [evE]; rfl
    rw [← this]; exact z
  | comp2 elt t1 it1 t2 it2 cond =>
    simp only [ckE] at h
    split at h
    · rename_i e0
      simp only [Expr.ListComp.injEq, List.cons.injEq, Comprehension.mk.injEq] at e0
      obtain ⟨rfl, ⟨⟨rfl, rfl, rfl, rfl⟩, ⟨rfl, rfl, rfl, rfl⟩, _⟩, rfl, rfl⟩ := e0
      obtain ⟨h1, r⟩ := ba2 h
      obtain ⟨h2, r⟩ := ba2 r
      obtain ⟨h3, r⟩ := ba2 r
      obtain ⟨h4, r⟩ := ba2 r
      obtain ⟨h5, r⟩ := ba2 r
      obtain ⟨h6, r⟩ := ba2 r
      obtain ⟨h7, r⟩ := ba2 r
      obtain ⟨h8, r⟩ := ba2 r
      obtain ⟨h9, r⟩ := ba2 r
      obtain ⟨h10, r⟩ := ba2 r
      obtain ⟨h11, h12⟩ := ba2 r
      have e1 := of_decide_eq_true h1
      have e2 := of_decide_eq_true h2
      subst e1 e2
      have sl := of_decide_eq_true h6
      have i1 := sI it1 p x h7
      have lli := (sI it2 (p.blk X.s_0 X.H_0 scope _ []) (x.blk X.s_0 X.H_0 scope 0 [] []) h9).ln
      have llc := (sC cond (p.blk X.s_0 X.H_0 scope _ []) (x.blk X.s_0 X.H_0 scope 0 [] []) h11).2
      have lle := (sE elt (p.blk X.s_0 X.H_0 scope _ []) (x.blk X.s_0 X.H_0 scope 0 [] []) h12).px.ln
      refine ⟨_, fun σ H Q q => ?_, fun i y py spos hy hyl hsw => ps_setLc2 (elt := el) (tg := tg) (iter := itr) (tg1 := tg1) (iter1 := itr1) (ifs := []) (ifs1 := ifs1) (scope := scope) (wi := tIt X.K (evIt (Gam T Φ) it1)) (wi1 := tIt X.K (evIt (Gam T Φ) it2)) (g := gT X.K t1) (g1 := gT X.K t2) (tt := tIT X.K fun ρ => some (true, ρ)) (tt1 := tIT X.K (evC (Gam T Φ) cond)) (te := tI X.K (evE (Gam T Φ) elt)) (own := ownOf2 C t1 t2) (vs1 := t2.slots) (pos := pos) x.calm x.nd hy hyl hsw i1.pi (by rw [x.hN, x.sc]; exact blkOk_by h5) (fun i hi => by rw [sl]; exact List.mem_append_right _ hi)
        (fun s H D cl fp => pg_of (x.blk s H scope D cl fp) h8) (fun s H D cl fp => pts_no)
        (fun s H D cl fp => (sI it2 (p.blk s H scope _ fp) (x.blk s H scope D cl fp) h9).pi) (fun s H D cl fp => pg_of (x.blk s H scope D cl fp) h10)
        (fun s H D cl fp => (sC cond (p.blk s H scope _ fp) (x.blk s H scope D cl fp) h11).1) (fun s H D cl fp => (sE elt (p.blk s H scope _ fp) (x.blk s H scope D cl fp) h12).px.pe) (folded_of h3 X.env) (folded_of h4)⟩
      have : evE (Gam T Φ) (.comp2 elt t1 it1 t2 it2 cond) = compE2 t1 t2 (evIt (Gam T Φ) it1) (evIt (Gam T Φ) it2) (evC (Gam T Φ) cond) (evE (Gam T Φ) elt) := by funext ρ; simp only [evE]; rfl
      rw [this] at q
      rw [sl]
      exact tI_comp2 i1.ln lli llc lle q
    · cases h
  | plc pl => cases pl <;> simp [ckE, ckPl] at h
  | _ => simp [ckE] at h
theorem swaps_false {v : Expr} {y : Str} {py : Pos} {l : Nat} {env : PySem.Env} (hk : env.kindOf y ≠ some .local) : swapsWith v (some (.Name y py)) l env = pure false := by
  have e : (env.kindOf y == some NameKind.local) = false := by simpa using hk
  cases v <;> first
    | rfl
    | (simp only [swapsWith, e]; simp; done)
    | (unfold swapsWith; simp only [e, Bool.and_false, Bool.false_and]; rfl)
theorem set_ok {io : List Nat} {C : SC} {X : Cx} {W : WX} (p : XP T Φ k X) (x : XC C X) (hkd : X.env.scope.kind = .function) {t : Tg} {e : E} {tg v : Expr} {pos : Pos} (h1 : ∀ i ∈ t.slots, i ∉ io) (h2 : ckTg C t tg = true) (h3 : ckE T C e v = true) (h4 : ((notComp v && (notTuple tg || notTuple v)) || compAsg C tg v) = true) :
    PXS X io W (.Assign [tg] v pos) (fun ρ => (evE (Gam T Φ) e ρ).bind fun p => (bindT t p.1 p.2).map .nx) := by
  have ie := sE e p x h3
  rcases Bool.or_eq_true_iff.mp h4 with h | h
  · obtain ⟨h5, h6⟩ := ba2 h
    refine pxs_set h1 ie.px.ln (fun σ H Q q => q) (ps_asg ie.px.pe (pg_of x h2) ?_ (swapped_no h6 ?_) (asg_one (ckTg_star h2)))
    · show swapsWith v (some tg) _ _ = pure false
      exact swaps_of h5
    · intro ts q z
      subst z
      cases t <;> simp [ckTg] at h2
  · unfold compAsg at h
    split at h
    · rename_i y py el gs scope cpos
      obtain ⟨hg1, h⟩ := ba2 h
      have hg1 := of_decide_eq_true hg1
      cases t with
      | names is => simp [ckTg] at h2
      | name i =>
        by_cases hloc : isLoc C.sc y = true
        · rw [if_pos hloc] at h
          obtain ⟨h5, h6⟩ := ba2 h
          match gs, h3, hg1 with
          | [⟨tg, itr, ifs, as⟩], h3, _ =>
            obtain ⟨elt, t, it, cond, rfl, q, qz⟩ := comp_ok p x e h3
            have h2' : storeOk C i y = true := by simpa [ckTg] using h2
            obtain ⟨s1, s2⟩ := ba2 h2'
            have hy : X.N[i]? = some y := by rw [x.hN]; exact of_decide_eq_true s1
            have hyl : X.env.scope.names.lookup y = some .local := by rw [x.sc]; exact of_decide_eq_true hloc
            refine pxs_set (t := .name i) (te := tLc (tIt X.K (evIt (Gam T Φ) it)) (gT X.K t) (tIT X.K (evC (Gam T Φ) cond)) (tI X.K (evE (Gam T Φ) elt)) ((ownOf C t).map (·.2))) h1 ie.px.ln (fun σ H Q z => ?_) ?_
            · rw [q.sl]
              exact tI_comp q.i.ln q.lt q.le (qz σ H Q z)
            · exact ps_setLc (own := ownOf C t) x.calm x.nd hy hyl (sw_true hkd hyl h5 (by simpa using h6)) q.i.pi q.ok q.g q.t q.e (folded_of q.st X.env)
          | [], h3, _ => exact (lc0 e h3).elim
          | [⟨tg, itr, ifs, as⟩, ⟨tg1, itr1, ifs1, as1⟩], h3, _ =>
            obtain ⟨te, qz, q⟩ := comp2_ok p x e h3
            have h2' : storeOk C i y = true := by simpa [ckTg] using h2
            obtain ⟨s1, s2⟩ := ba2 h2'
            have hy : X.N[i]? = some y := by rw [x.hN]; exact of_decide_eq_true s1
            have hyl : X.env.scope.names.lookup y = some .local := by rw [x.sc]; exact of_decide_eq_true hloc
            exact pxs_set (t := .name i) (te := te) h1 ie.px.ln qz (q i y py pos hy hyl (sw_true hkd hyl h5 (by simpa using h6)))
          | _ :: _ :: _ :: _, h3, hg => simp at hg
        · have h2' : storeOk C i y = true := by simpa [ckTg] using h2
          obtain ⟨s1, s2⟩ := ba2 h2'
          have hk : X.env.kindOf y ≠ some .local := by
            intro z
            apply hloc
            have z : X.env.scope.names.lookup y = some .local := z
            rw [x.sc] at z
            exact decide_eq_true z
          refine pxs_set h1 ie.px.ln (fun σ H Q q => q) (ps_asg ie.px.pe (pg_of x h2) ?_ (by rfl) (by rfl))
          show swapsWith (.ListComp el gs scope cpos) (some (.Name y py)) pos.line X.env = pure false
          exact swaps_false hk
    · cases h
theorem aug_add : ∀ x y z, augD .add x y = some z → ∃ a b, x = .int a ∧ y = .int b ∧ z = .int ((fun i j => i + j) a b) := by
  intro x y z h
  cases x <;> cases y <;> simp only [augD, reduceCtorEq] at h
  cases h
  exact ⟨_, _, rfl, rfl, rfl⟩
theorem aug_sub : ∀ x y z, augD .sub x y = some z → ∃ a b, x = .int a ∧ y = .int b ∧ z = .int ((fun i j => i - j) a b) := by
  intro x y z h
  cases x <;> cases y <;> simp only [augD, reduceCtorEq] at h
  cases h
  exact ⟨_, _, rfl, rfl, rfl⟩
theorem par_stores {X : Cx} {x y : Str} {px py pt : Pos} {kt k2 : Nat} {p2 : Pos} {a b : Expr} (hk : X.env.scope.kind = .function) (hx : X.env.scope.names.lookup x = some .local) (hy : X.env.scope.names.lookup y = some .local) (h : parOk x px y py a b = true) (hs : [a, b].all noStar = true) :
    swappedStores [.Tuple [.Name x px, .Name y py] kt pt] (.Tuple [a, b] k2 p2) X.env = pure (some [x, y]) := by
  obtain ⟨h1, h⟩ := ba2 h
  obtain ⟨h2, h⟩ := ba2 h
  obtain ⟨h3, h4⟩ := ba2 h
  have hxy : (y == x) = false := by
    cases e : y == x with
    | false => rfl
    | true =>
      have := eq_of_beq e
      subst this
      simp at h1
  have hb : (X.env.blockKind != .function) = false := by
    have : X.env.blockKind = .function := by unfold PySem.Env.blockKind; rw [hk]; rfl
    rw [this]; rfl
  simp only [List.all_cons, List.all_nil, Bool.and_true, Bool.and_eq_true] at hs
  obtain ⟨s1, s2⟩ := hs
  have k1 : X.env.kindOf x = some .local := hx
  have k2 : X.env.kindOf y = some .local := hy
  have h3' : [a, b].all (foldedForSure 8) = false := by cases e : [a, b].all (foldedForSure 8) <;> first | rfl | (rw [e] at h3; cases h3)
  have h4' : [a, b].all (constantsAlone 8) = false := by cases e : [a, b].all (constantsAlone 8) <;> first | rfl | (rw [e] at h4; cases h4)
  have el : (py.line == px.line) = true := h2
  unfold swappedStores
  simp only []
  refine (if_neg (by rw [hb]; simp)).trans ((if_neg ?_).trans ((if_neg ?_).trans ((if_neg (by rw [h3']; simp)).trans ((if_neg (by rw [h4']; simp)).trans ?_))))
  · intro z
    simp only [List.any_cons, List.any_nil, Bool.or_false, Bool.or_eq_true] at z
    rcases z with z | z
    · cases a <;> first | (cases s1; done) | (cases z; done)
    · cases b <;> first | (cases s2; done) | (cases z; done)
  · simp [k1, k2, Expr.pos, eq_of_beq h2, List.eraseDups_cons, hxy]
  · simp [k1, k2, Expr.pos, eq_of_beq h2]
/-- what a statement knows of its frame -/
structure XS (T : Tab) (X : Cx) (W : WX) : Prop where
  hk : X.env.scope.kind = .function
  hp : PassesOwn (model X.prog X.w) X.A X.env X.xe
  st : X.stack = X.env :: X.outer
  fr : X.env.frame = some X.env.locals
  tk : L2N.Takes X W
  isn : ∀ f ∈ T.isn, ∀ (a : Addr) (oe : Obj) (pn : List (Addr × Obj)) (cls : Value) (d : Option Addr), L2N.Zn cls d oe → (∃ fv, oe.data = .fields fv) → ∀ (x : Str) (e : Expr) (te : TE) (q pos : Pos), (T.fns[f]?).map (·.at_) = some (x, none) → Gl (X.suite a ((a, oe) :: pn)) x → (x == ("__debug__" : Str)) = false → noStar e = true → PE (X.suite a ((a, oe) :: pn)) e te →
    PE (X.suite a ((a, oe) :: pn)) (.Call (.Name x q) [e] [] pos) (fun σ H Q => te σ H fun v H1 => ∃ b, intV v = some b ∧ Q (.bl b) H1)
theorem XP.tr {X : Cx} (p : XP T Φ k X) (pn : List (Addr × Obj)) (xe : Value → Shared → Prop) : XP T Φ k (X.tr pn xe) := ⟨p.room, p.cls, p.fns, p.fin, p.ar, p.arX, p.glo, p.mth, p.mak, p.xg, p.x0, p.x1, p.xe, p.xk, p.xn, p.xv, p.oc, p.eqc, p.free⟩
theorem XC.tr {C : SC} {X : Cx} (c : XC C X) (pn : List (Addr × Obj)) (xe : Value → Shared → Prop) : XC C (X.tr pn xe) := ⟨⟨c.hN, c.sc, c.fn, c.nd⟩, c.calm⟩
theorem hds_ok {io : List Nat} {C : SC} {X : Cx} {W : WX} (p : XP T Φ k X) (x : XC C X) (w : XS T X W) : ∀ {hs : List Hd} {hds : List ExceptHandler}, ckHds T io C hs hds = true → FX.ClOk X hds (hs.map (clOf T Φ X.K io)) ∧ ∀ h ∈ hs, HdOk T io X.N.length h
  | [], [], _ => ⟨.nil, fun _ h => by simp at h⟩
  | [], _ :: _, h => by simp [ckHds] at h
  | _ :: _, [], h => by simp [ckHds] at h
  | h :: hs, e :: es, hc => by
    simp only [ckHds] at hc
    obtain ⟨h1, h2⟩ := ba2 hc
    obtain ⟨r1, r2⟩ := hds_ok p x w h2
    unfold ckHd at h1
    split at h1
    · rename_i x0 p0 nm st p1
      obtain ⟨c1, c⟩ := ba2 h1
      obtain ⟨c2, c⟩ := ba2 c
      obtain ⟨c3, c⟩ := ba2 c
      obtain ⟨c4, c5⟩ := ba2 c
      have e1 := of_decide_eq_true c1
      obtain ⟨q0, hq0, eq0⟩ := any_mem c5
      have eq0 := of_decide_eq_true eq0
      obtain ⟨g1, g2⟩ := x.gl c2
      have hm := (p.xg q0 hq0).1
      rw [eq0] at hm
      have slf : ∀ i, h.sl = some i → ∃ n, nm = some n ∧ X.N[i]? = some n ∧ X.env.kindOf n = some .local ∧ i ∉ io := fun i ei => by
        rw [ei] at c3
        cases nm with
        | none => simp [slB] at c3
        | some n =>
          simp only [slB] at c3
          obtain ⟨s1, s2⟩ := ba2 c3
          obtain ⟨s2, s3⟩ := ba2 s2
          refine ⟨n, rfl, by rw [x.hN]; exact of_decide_eq_true s1, ?_, by simpa using s3⟩
          show X.env.scope.names.lookup n = _
          rw [x.sc]; exact of_decide_eq_true s2
      refine ⟨.cons (cv := .ref (He.ga X.K h.c)) (sl := h.sl) (rd := tSu T Φ X.K io h.sl h.s) ⟨g1, g2, .inl (by rw [← e1]; exact hm)⟩ ?_ (fun a oe cls d pn hz hf => ?_) r1, fun g hg => ?_⟩
      · cases es : h.sl with
        | none =>
          rw [es] at c3
          cases nm with
          | none => trivial
          | some n => simp [slB] at c3
        | some i =>
          obtain ⟨n, rfl, s1, s2, _⟩ := slf i es
          exact ⟨s1, s2⟩
      · exact sSS (T := T) (Φ := Φ) (k := k) (C := C) (Y := X.suite a ((a, oe) :: pn)) h.s ⟨⟨x.hN, x.sc, x.fn, x.nd⟩, List.mem_cons_self .., hz, hf, p.xg, p.xk, p.xn, p.xv, p.free _ (by decide +kernel), fun f hf2 y e te q pos a1 a2 a3 a4 => by
          obtain ⟨b1, b2⟩ := x.gl a2
          exact w.isn f hf2 a oe pn cls d hz hf y e te q pos a1 b1 b2 a3 a4⟩ c4
      · rcases List.mem_cons.mp hg with rfl | hg
        · refine ⟨⟨q0, hq0, eq0.trans e1⟩, fun i ei => ?_, fun i e2 es z => ?_⟩
          · obtain ⟨n, _, s1, _, s3⟩ := slf i ei
            exact ⟨(List.getElem?_eq_some_iff.mp s1).1, s3⟩
          · rw [es] at c4
            simp only [ckSS] at c4
            split at c4
            · obtain ⟨_, d1⟩ := ba2 c4
              obtain ⟨_, d1⟩ := ba2 d1
              obtain ⟨_, d1⟩ := ba2 d1
              obtain ⟨d2, _⟩ := ba2 d1
              rw [z] at d2
              simp at d2
            · cases c4
        · exact r2 g hg
    · cases h1
mutual
theorem sS : ∀ (s : S) {io : List Nat} {C : SC} {X : Cx} {W : WX}, XP T Φ k X → XC C X → XS T X W → ∀ {st : Stmt}, ckS T io C s st = true → PXS X io W st (exS (Gam T Φ) s)
  | .set t e, io, C, X, W, p, x, w, st, h => by
    simp only [ckS] at h
    split at h
    · obtain ⟨h1, h2⟩ := ba2 h
      obtain ⟨h2, h3⟩ := ba2 h2
      obtain ⟨h3, h4⟩ := ba2 h3
      exact pxs_cg (set_ok p x w.hk (slots_no h1) h2 h3 h4) fun ρ => by simp only [exS]
    · cases h
  | .setI i b e, io, C, X, W, p, x, w, st, h => by
    simp only [ckS] at h
    split at h
    · obtain ⟨h1, h2⟩ := ba2 h
      obtain ⟨h2, h3⟩ := ba2 h2
      obtain ⟨h5, h6⟩ := ba2 h3
      have ib := sE b p x h5
      have ie := sE e p x h6
      exact pxs_cg (pxs_setI ie.px.ln ib.px.ln (ps_asg ie.px.pe (pg_sub (x.var h1) ib.px.pe set_list fun v => assign_sub h2) (sole_sub) (swapped_no (by rfl) (fun ts q z => by cases z)) (by rfl))) fun ρ => by simp only [exS]
    · cases h
  | .setF i f e, io, C, X, W, p, x, w, st, h => by
    simp only [ckS] at h
    split at h
    · obtain ⟨h1, h2⟩ := ba2 h
      obtain ⟨h2, h4⟩ := ba2 h2
      have e1 := of_decide_eq_true h2
      subst e1
      have ie := sE e p x h4
      exact pxs_cg (pxs_setF p.cls ie.px.ln (ps_fld (x.var h1) ie.px.pe swaps_attr)) fun ρ => by simp only [exS]
    · cases h
  | .aug i op e, io, C, X, W, p, x, w, st, h => by
    simp only [ckS] at h
    split at h
    · rename_i zx zp zo zv zq
      obtain ⟨h1, h2⟩ := ba2 h
      obtain ⟨h2, h3⟩ := ba2 h2
      obtain ⟨h3, h4⟩ := ba2 h3
      have ie := sE e p x h4
      have hio : i ∉ io := by simpa using h2
      obtain ⟨s1, s2⟩ := ba2 h1
      obtain ⟨s2, s3⟩ := ba2 s2
      have hy : X.N[i]? = some zx := by rw [x.hN]; exact of_decide_eq_true s1
      have hl : Loc X.env.scope zx := by rw [x.sc]; exact locB_ok s2
      have hf : X.fn zx = true ∨ X.env.scope.names.lookup zx = some .local := by
        rcases Bool.or_eq_true_iff.mp s3 with h | h
        · exact .inl (by rw [x.fn]; exact h)
        · exact .inr (by rw [x.sc]; exact of_decide_eq_true h)
      rcases Bool.or_eq_true_iff.mp h3 with h | h
      · obtain ⟨q1, q2⟩ := ba2 h
        have e1 := of_decide_eq_true q1
        have e2 := of_decide_eq_true q2
        subst e1 e2
        exact pxs_cg (pxs_aug hio aug_add ie.px.ln (ps_aug x.nd hy hl ie.px.pe ip_add hf)) fun ρ => by simp only [exS]
      · obtain ⟨q1, q2⟩ := ba2 h
        have e1 := of_decide_eq_true q1
        have e2 := of_decide_eq_true q2
        subst e1 e2
        exact pxs_cg (pxs_aug hio aug_sub ie.px.ln (ps_aug x.nd hy hl ie.px.pe ip_sub hf)) fun ρ => by simp only [exS]
    · cases h
  | .setP pl ix e, io, C, X, W, p, x, w, st, h => by
    simp only [ckS] at h
    split at h
    · obtain ⟨h1, h2⟩ := ba2 h
      obtain ⟨h2, h3⟩ := ba2 h2
      obtain ⟨h3, h4⟩ := ba2 h3
      have ie := sE e p x h4
      exact pxs_cg (pxs_setP ie.px.ln (ps_asg ie.px.pe (pg_sub (x.pl h2) (x.ix h3) set_list fun v => assign_sub h1) (sole_sub) (swapped_no (by rfl) (fun ts q z => by cases z)) (by rfl))) fun ρ => by simp only [exS]; rfl
    · cases h
  | .par is es, io, C, X, W, p, x, w, st, h => by
    simp only [ckS] at h
    split at h
    · split at h
      · rename_i _ i j _ zx px zy py kt pt a b k2 p2 zq
        obtain ⟨h1, h⟩ := ba2 h
        obtain ⟨h2, h⟩ := ba2 h
        obtain ⟨h3, h⟩ := ba2 h
        obtain ⟨h4, h⟩ := ba2 h
        obtain ⟨h5, h⟩ := ba2 h
        obtain ⟨h6, h⟩ := ba2 h
        obtain ⟨h7, h⟩ := ba2 h
        obtain ⟨h8, h9⟩ := ba2 h
        have hij : i ≠ j := of_decide_eq_true h5
        obtain ⟨ies, _⟩ := sPs es p x h9
        have hx : X.N[i]? = some zx := by rw [x.hN]; exact of_decide_eq_true (ba2 h1).1
        have hy : X.N[j]? = some zy := by rw [x.hN]; exact of_decide_eq_true (ba2 h2).1
        have lx : X.env.scope.names.lookup zx = some .local := by rw [x.sc]; exact of_decide_eq_true h3
        have ly : X.env.scope.names.lookup zy = some .local := by rw [x.sc]; exact of_decide_eq_true h4
        have hall := ckPs_all h9
        refine pxs_cg (pxs_par hij (by simpa using h6) (by simpa using h7) ies.ln (ps_par x.calm x.nd hx hy hij lx ly ies.pa (par_stores w.hk lx ly h8 hall))) fun ρ => by simp only [exS]
      · cases h
    · cases h
  | .mutN i op es, io, C, X, W, p, x, w, st, h => by
    simp only [ckS] at h
    split at h
    · rename_i zx zp m ap xs cp sp
      obtain ⟨h6, r0⟩ := ba2 h
      obtain ⟨h1, r1⟩ := ba2 r0
      obtain ⟨h2, r2⟩ := ba2 r1
      obtain ⟨h3, r3⟩ := ba2 r2
      obtain ⟨h4, r4⟩ := ba2 r3
      obtain ⟨h5, h7⟩ := ba2 r4
      clear h r0 r1 r2 r3 r4
      have e1 := of_decide_eq_true h1
      subst e1
      have ipl := x.var (p := zp) h6
      obtain ⟨ies, _⟩ := sPs es p x h7
      have hall := ckPs_all h7
      have hlen : xs.length < 30 := of_decide_eq_true h4
      have hpos : 0 < xs.length := of_decide_eq_true h5
      have hev : ∀ ρ, exS (Gam T Φ) (.mutN i op es) ρ = mutNE i op (evEs (Gam T Φ) es) ρ := fun ρ => by simp only [exS]; rfl
      cases xs with
      | nil => simp at hpos
      | cons e0 xs =>
        have hs0 : noStar e0 = true := by rw [List.all_cons, Bool.and_eq_true] at hall; exact hall.1
        have hs1 : xs.all noStar = true := by rw [List.all_cons, Bool.and_eq_true] at hall; exact hall.2
        have hfew : ((backTo cp (starEach (e0 :: xs) X.env)).all (fun x => !x.1) && (backToKw cp (keywordEach [] X.env)).all (fun x => x.1.isSome) && decide ((e0 :: xs).length + ([] : List Keyword).length + (if ([] : List Keyword).isEmpty then 0 else 1) < 30)) = true := by
          rw [all_no (by rw [List.all_cons, hs0, hs1]; rfl)]
          show (true && (true && decide ((e0 :: xs).length + 0 + 0 < 30))) = true
          rw [Bool.true_and, Bool.true_and]
          exact decide_eq_true hlen
        refine pxs_cg (pxs_mutN h2 ies.ln ?_) hev
        cases op with
        | app => exact ps_expr (pe_bm PySem.F.plainAttrs_list PySem.F.slot_list_append PySem.F.type_list_append mt_append ipl ies.pa (by rfl) hfew h3 (star_no hs0) (any_no hs1)) (by rfl)
        | clr => exact ps_expr (pe_bm PySem.F.plainAttrs_list PySem.F.slot_list_clear PySem.F.type_list_clear mt_clear ipl ies.pa (by rfl) hfew h3 (star_no hs0) (any_no hs1)) (by rfl)
        | rev => exact ps_expr (pe_bm PySem.F.plainAttrs_list PySem.F.slot_list_reverse PySem.F.type_list_reverse mt_reverse ipl ies.pa (by rfl) hfew h3 (star_no hs0) (any_no hs1)) (by rfl)
        | pop => exact ps_expr (pe_bm PySem.F.plainAttrs_list PySem.F.slot_list_pop PySem.F.type_list_pop mt_pop ipl ies.pa (by rfl) hfew h3 (star_no hs0) (any_no hs1)) (by rfl)
        | popI => exact ps_expr (pe_bm PySem.F.plainAttrs_list PySem.F.slot_list_pop PySem.F.type_list_pop mt_popAt ipl ies.pa (by rfl) hfew h3 (star_no hs0) (any_no hs1)) (by rfl)
        | ext => exact ps_expr (pe_bm PySem.F.plainAttrs_list PySem.F.slot_list_extend PySem.F.type_list_extend mt_extend ipl ies.pa (by rfl) hfew h3 (star_no hs0) (any_no hs1)) (by rfl)
        | ins => exact ps_expr (pe_bm PySem.F.plainAttrs_list PySem.F.slot_list_insert PySem.F.type_list_insert mt_insert ipl ies.pa (by rfl) hfew h3 (star_no hs0) (any_no hs1)) (by rfl)
    · cases h
  | .loopO t b body, io, C, X, W, p, x, w, st, h => by
    simp only [ckS] at h
    split at h
    · obtain ⟨h1, h⟩ := ba2 h
      obtain ⟨h2, h⟩ := ba2 h
      obtain ⟨h3, h⟩ := ba2 h
      obtain ⟨h4, h5⟩ := ba2 h
      have ib := sSs body p x w h5
      exact pxs_cg (pxs_loopO (of_decide_eq_true h4) (by simpa using h3) ib (ps_for w.hp x.calm (pi_list (x.var h2)) (x.store h1) ib (by intro _; rfl))) fun ρ => by simp only [exS]
    · cases h
  | .setS i a b e, io, C, X, W, p, x, w, st, h => by
    simp only [ckS] at h
    split at h
    · obtain ⟨h1, h2⟩ := ba2 h
      obtain ⟨h2, h3⟩ := ba2 h2
      obtain ⟨h3, h4⟩ := ba2 h3
      have ia := sE a p x h2
      have ib := sE b p x h3
      have ie := sE e p x h4
      exact pxs_cg (pxs_setS ie.px.ln ia.px.ln ib.px.ln (ps_asg ie.px.pe (pg_slc (x.var h1) ia.px.pe ib.px.pe) (sole_sub) (swapped_no (by rfl) (fun ts q z => by cases z)) (by rfl))) fun ρ => by simp only [exS]
    · cases h
  | .swp i j a b e, io, C, X, W, p, x, w, st, h => by
    simp only [ckS] at h
    split at h
    · obtain ⟨h1, h2⟩ := ba2 h
      obtain ⟨h2, h3⟩ := ba2 h2
      obtain ⟨h3, h4⟩ := ba2 h3
      obtain ⟨h4, h5⟩ := ba2 h4
      obtain ⟨h5, h6⟩ := ba2 h5
      obtain ⟨h6, h7⟩ := ba2 h6
      obtain ⟨h7, h8⟩ := ba2 h7
      have ia := sE a p x h5
      have ib := sE b p x h6
      have ie := sE e p x h7
      exact pxs_cg (pxs_swp ie.px.ln ia.px.ln ib.px.ln (ps_asg ie.px.pe (pg_tup x.calm (pgs_cons (pg_sub (x.var h1) ia.px.pe set_list fun v => assign_sub h3) (pgs_cons (pg_sub (x.var h2) ib.px.pe set_list fun v => assign_sub h4) pgs_nil))) (sole_of h8) swapped_subs (by rfl))) fun ρ => by simp only [exS]
    · cases h
  | .bor is a, io, C, X, W, p, x, w, st, h => by
    simp only [ckS] at h
    obtain ⟨h1, h2⟩ := ba2 h
    rw [← x.hN] at h2
    refine pxs_cg (pxs_bor (fun i hi z => ?_) (sS a p x w h2)) fun ρ => by simp only [exS]; rfl
    have := List.all_eq_true.mp h1 i hi
    simp at this
    exact this z
  | .mutP pl op es, io, C, X, W, p, x, w, st, h => by
    simp only [ckS] at h
    split at h
    · rename_i o m ap xs cp sp
      obtain ⟨h1, r1⟩ := ba2 h
      obtain ⟨h2, r2⟩ := ba2 r1
      obtain ⟨h3, r3⟩ := ba2 r2
      obtain ⟨h4, r4⟩ := ba2 r3
      obtain ⟨h5, r5⟩ := ba2 r4
      obtain ⟨h6, h7⟩ := ba2 r5
      clear h r1 r2 r3 r4 r5
      have e1 := of_decide_eq_true h1
      subst e1
      have ipl := x.pl h6
      obtain ⟨ies, _⟩ := sPs es p x h7
      have hall := ckPs_all h7
      have hlen : xs.length < 30 := of_decide_eq_true h4
      have hev : ∀ ρ, exS (Gam T Φ) (.mutP pl op es) ρ = mutE pl op (evEs (Gam T Φ) es) ρ := fun ρ => by simp only [exS]; rfl
      cases xs with
      | nil =>
        have hes : ∀ ρ, evEs (Gam T Φ) es ρ = some ([], ρ) := by
          cases es with
          | nil => intro ρ; simp only [evEs]
          | cons a b => simp [ckPs] at h7
          | star a b => simp [ckPs] at h7
        have hev' : ∀ ρ, exS (Gam T Φ) (.mutP pl op es) ρ = mutE pl op (fun ρ => some ([], ρ)) ρ := fun ρ => by
          rw [hev ρ]
          have : evEs (Gam T Φ) es = fun ρ => some ([], ρ) := funext hes
          rw [this]
        refine pxs_cg (pxs_mutP0 h2 ?_) hev'
        cases op with
        | clr => exact ps_expr (pe_bm0 PySem.F.plainAttrs_list PySem.F.slot_list_clear PySem.F.type_list_clear mt_clear ipl (base_of h5) h3) (by rfl)
        | rev => exact ps_expr (pe_bm0 PySem.F.plainAttrs_list PySem.F.slot_list_reverse PySem.F.type_list_reverse mt_reverse ipl (base_of h5) h3) (by rfl)
        | pop => exact ps_expr (pe_bm0 PySem.F.plainAttrs_list PySem.F.slot_list_pop PySem.F.type_list_pop mt_pop ipl (base_of h5) h3) (by rfl)
        | app => exact ps_expr (pe_bm0 PySem.F.plainAttrs_list PySem.F.slot_list_append PySem.F.type_list_append mt_append ipl (base_of h5) h3) (by rfl)
        | popI => exact ps_expr (pe_bm0 PySem.F.plainAttrs_list PySem.F.slot_list_pop PySem.F.type_list_pop mt_popAt ipl (base_of h5) h3) (by rfl)
        | ext => exact ps_expr (pe_bm0 PySem.F.plainAttrs_list PySem.F.slot_list_extend PySem.F.type_list_extend mt_extend ipl (base_of h5) h3) (by rfl)
        | ins => exact ps_expr (pe_bm0 PySem.F.plainAttrs_list PySem.F.slot_list_insert PySem.F.type_list_insert mt_insert ipl (base_of h5) h3) (by rfl)
      | cons e0 xs =>
        have hs0 : noStar e0 = true := by rw [List.all_cons, Bool.and_eq_true] at hall; exact hall.1
        have hs1 : xs.all noStar = true := by rw [List.all_cons, Bool.and_eq_true] at hall; exact hall.2
        have hfew : ((backTo cp (starEach (e0 :: xs) X.env)).all (fun x => !x.1) && (backToKw cp (keywordEach [] X.env)).all (fun x => x.1.isSome) && decide ((e0 :: xs).length + ([] : List Keyword).length + (if ([] : List Keyword).isEmpty then 0 else 1) < 30)) = true := by
          rw [all_no (by rw [List.all_cons, hs0, hs1]; rfl)]
          show (true && (true && decide ((e0 :: xs).length + 0 + 0 < 30))) = true
          rw [Bool.true_and, Bool.true_and]
          exact decide_eq_true hlen
        refine pxs_cg (pxs_mutP h2 ies.ln ?_) hev
        cases op with
        | app => exact ps_expr (pe_bm PySem.F.plainAttrs_list PySem.F.slot_list_append PySem.F.type_list_append mt_append ipl ies.pa (base_of h5) hfew h3 (star_no hs0) (any_no hs1)) (by rfl)
        | clr => exact ps_expr (pe_bm PySem.F.plainAttrs_list PySem.F.slot_list_clear PySem.F.type_list_clear mt_clear ipl ies.pa (base_of h5) hfew h3 (star_no hs0) (any_no hs1)) (by rfl)
        | rev => exact ps_expr (pe_bm PySem.F.plainAttrs_list PySem.F.slot_list_reverse PySem.F.type_list_reverse mt_reverse ipl ies.pa (base_of h5) hfew h3 (star_no hs0) (any_no hs1)) (by rfl)
        | pop => exact ps_expr (pe_bm PySem.F.plainAttrs_list PySem.F.slot_list_pop PySem.F.type_list_pop mt_pop ipl ies.pa (base_of h5) hfew h3 (star_no hs0) (any_no hs1)) (by rfl)
        | popI => exact ps_expr (pe_bm PySem.F.plainAttrs_list PySem.F.slot_list_pop PySem.F.type_list_pop mt_popAt ipl ies.pa (base_of h5) hfew h3 (star_no hs0) (any_no hs1)) (by rfl)
        | ext => exact ps_expr (pe_bm PySem.F.plainAttrs_list PySem.F.slot_list_extend PySem.F.type_list_extend mt_extend ipl ies.pa (base_of h5) hfew h3 (star_no hs0) (any_no hs1)) (by rfl)
        | ins => exact ps_expr (pe_bm PySem.F.plainAttrs_list PySem.F.slot_list_insert PySem.F.type_list_insert mt_insert ipl ies.pa (base_of h5) hfew h3 (star_no hs0) (any_no hs1)) (by rfl)
    · cases h
  | .app i e, io, C, X, W, p, x, w, st, h => by
    simp only [ckS] at h
    split at h
    · obtain ⟨h1, h2⟩ := ba2 h
      obtain ⟨h2, h3⟩ := ba2 h2
      obtain ⟨h3, h4⟩ := ba2 h3
      obtain ⟨h4, h5⟩ := ba2 h4
      have e1 := of_decide_eq_true h2
      subst e1
      have ie := sE e p x h5
      refine pxs_cg (pxs_app ie.px.ln (ps_expr (pe_bm PySem.F.plainAttrs_list PySem.F.slot_list_append PySem.F.type_list_append mt_append (x.var h1) (pa_cons ie.px.pe pa_nil (star_no h4)) (by rfl) ?_ h3 (star_no h4) (by rfl)) (by rfl))) fun ρ => by simp only [exS]
      rw [all_no (by simp [h4])]
      rfl
    · cases h
  | .ex e, io, C, X, W, p, x, w, st, h => by
    simp only [ckS] at h
    split at h
    · obtain ⟨h1, h2⟩ := ba2 h
      have ie := sE e p x h2
      exact pxs_cg (pxs_ex ie.px.ln (ps_expr ie.px.pe (swaps_of h1))) fun ρ => by simp only [exS]
    · cases h
  | .ite c a b, io, C, X, W, p, x, w, st, h => by
    simp only [ckS] at h
    split at h
    · obtain ⟨h1, h2⟩ := ba2 h
      obtain ⟨h2, h3⟩ := ba2 h2
      have ic := sE c p x h1
      exact pxs_cg (pxs_ite ic.pxt ic.px.ln (sSs a p x w h2) (sSs b p x w h3)) fun ρ => by simp only [exS]; rfl
    · cases h
  | .loop t it b, io, C, X, W, p, x, w, st, h => by
    simp only [ckS] at h
    split at h
    · obtain ⟨h1, h2⟩ := ba2 h
      obtain ⟨h2, h3⟩ := ba2 h2
      obtain ⟨h3, h4⟩ := ba2 h3
      obtain ⟨h4, h5⟩ := ba2 h4
      have ii := sI it p x h3
      have ib := sSs b p x w h5
      exact pxs_cg (pxs_loop (slots_no h1) ii ib (ps_for w.hp x.calm ii.pi (pg_of x h4) ib (folded_of h2 X.env))) fun ρ => by simp only [exS]
    · cases h
  | .whl c b, io, C, X, W, p, x, w, st, h => by
    simp only [ckS] at h
    split at h
    · obtain ⟨h1, h2⟩ := ba2 h
      have ic := sE c p x h1
      have ib := sSs b p x w h2
      refine pxs_cg (pxs_whl ic.pxt ib (ps_while w.hp ic.pxt.pt ib)) fun ρ => ?_
      have : evC (Gam T Φ) (.yes c) = asT (evE (Gam T Φ) c) := by funext ρ; simp only [evC]; rfl
      simp only [exS]
      rw [this]
    · cases h
  | .ret e, io, C, X, W, p, x, w, st, h => by
    simp only [ckS] at h
    split at h
    · have ie := sE e p x h
      exact pxs_cg (pxs_ret ie.px.ln (ps_ret ie.px.pe)) fun ρ => by simp only [exS]
    · cases h
  | .retN, io, C, X, W, p, x, w, st, h => by
    simp only [ckS] at h
    split at h
    · exact pxs_cg (pxs_retN ps_retN) fun ρ => by simp only [exS]
    · cases h
  | .brk, io, C, X, W, p, x, w, st, h => by
    simp only [ckS] at h
    split at h
    · exact pxs_cg (pxs_brk ps_break) fun ρ => by simp only [exS]
    · cases h
  | .cnt, io, C, X, W, p, x, w, st, h => by
    simp only [ckS] at h
    split at h
    · exact pxs_cg (pxs_cnt ps_continue) fun ρ => by simp only [exS]
    · cases h
  | .pass, io, C, X, W, p, x, w, st, h => by
    simp only [ckS] at h
    split at h
    · exact pxs_cg (pxs_pass ps_pass) fun ρ => by simp only [exS]
    · cases h
  | .nev, io, C, X, W, p, x, w, st, h => pxs_cg pxs_nev fun ρ => by simp only [exS]
  | .may m e, io, C, X, W, p, x, w, st, h => by
    simp only [ckS] at h
    cases m with
    | set t =>
      simp only [ckMay] at h
      split at h
      · rename_i tg v pos
        obtain ⟨h1, h2⟩ := ba2 h
        obtain ⟨h2, h3⟩ := ba2 h2
        obtain ⟨h3, h4⟩ := ba2 h3
        obtain ⟨h5, h6⟩ := ba2 h4
        have ix := sX e p x w.tk h3
        refine pxs_cg (pxs_may ix.ln (set_ok p x w.hk (slots_no h1) h2 h3 (by rw [h4]; rfl)) (ps_imp (ps_asg ix.pe (pg_of x h2) (swaps_of h5 : swapsWith v (some tg) pos.line X.env = pure false) (swapped_no h6 ?_) (asg_one (ckTg_star h2))) fun D σ H q => q)) fun ρ => by simp only [exS, mayN]
        intro ts q z
        subst z
        cases t <;> simp [ckTg] at h2
      · cases h
    | ex =>
      simp only [ckMay] at h
      split at h
      · obtain ⟨h1, h2⟩ := ba2 h
        have ix := sX e p x w.tk h2
        have ie := sE e p x h2
        exact pxs_cg (pxs_may ix.ln (pxs_ex ie.px.ln (ps_expr ie.px.pe (swaps_of h1))) (ps_imp (ps_expr ix.pe (swaps_of h1)) fun D σ H q => q)) fun ρ => by simp only [exS, mayN]
      · cases h
    | ret =>
      simp only [ckMay] at h
      split at h
      · have ix := sX e p x w.tk h
        have ie := sE e p x h
        exact pxs_cg (pxs_may ix.ln (pxs_ret ie.px.ln (ps_ret ie.px.pe)) (ps_imp (ps_ret ix.pe) fun D σ H q => q)) fun ρ => by simp only [exS, mayN]
      · cases h
  | .rse0 c, io, C, X, W, p, x, w, st, h => by
    simp only [ckS] at h
    split at h
    · obtain ⟨h1, h2⟩ := ba2 h
      obtain ⟨h2, h3⟩ := ba2 h2
      obtain ⟨h3, h4⟩ := ba2 h3
      have e1 := of_decide_eq_true h1
      subst e1
      obtain ⟨g1, g2⟩ := x.gl h2
      obtain ⟨q0, hq0, eq0⟩ := any_mem h3
      have eq0 := of_decide_eq_true eq0
      have hm := (p.xg q0 hq0).1
      obtain ⟨z1, z2, z3⟩ := p.x0 q0 hq0 fun r hr er => by
        have : (T.xi.any fun q => decide (q.1 = _)) = true := List.any_eq_true.mpr ⟨r, hr, decide_eq_true (er.trans eq0)⟩
        rw [this] at h4
        cases h4
      rw [eq0] at hm z1 z2 z3
      exact pxs_cg (pxs_rse0 (L2N.ps_raise x.calm w.tk (FX.pmk0 z1 hm z2 z3 g1 g2))) fun ρ => by simp only [exS]
    · cases h
  | .rse1 c f e, io, C, X, W, p, x, w, st, h => by
    simp only [ckS] at h
    split at h
    · obtain ⟨h1, h2⟩ := ba2 h
      obtain ⟨h2, h3⟩ := ba2 h2
      obtain ⟨h3, h4⟩ := ba2 h3
      obtain ⟨h4, h5⟩ := ba2 h4
      have e1 := of_decide_eq_true h1
      subst e1
      obtain ⟨g1, g2⟩ := x.gl h2
      obtain ⟨q0, hq0, eq0⟩ := any_mem h3
      have eq0 := of_decide_eq_true eq0
      subst eq0
      obtain ⟨z1, z2, fI, fd, ps, z3, z4, z5, z6⟩ := p.x1 _ hq0
      have ie := sE e p x h5
      exact pxs_cg (pxs_rse1 ie.px.ln (L2N.ps_raise x.calm w.tk (FX.pmk1 z2 z3 z4 z6 p.room z5 passN g1 z1 ie.px.pe g2 (star_no h4)))) fun ρ => by simp only [exS]
    · cases h
  | .try_ b hs, io, C, X, W, p, x, w, st, h => by
    simp only [ckS] at h
    split at h
    · obtain ⟨h1, h2⟩ := ba2 h
      obtain ⟨r1, r2⟩ := hds_ok p x w h2
      exact pxs_cg (pxs_try (T := T) (Φ := Φ) w.st w.fr x.nd w.tk p.xe (fun W' pn xe tk' po => sSs b (p.tr pn xe) (x.tr pn xe) ⟨w.hk, po, w.st, w.fr, tk', w.isn⟩ h1) r1 r2) fun ρ => by
        simp only [exS] <;> (rcases exSs (Gam T Φ) b ρ with _ | fl; rfl; cases fl <;> rfl)
    · cases h
theorem sSs : ∀ (s : Ss) {io : List Nat} {C : SC} {X : Cx} {W : WX}, XP T Φ k X → XC C X → XS T X W → ∀ {st : List Stmt}, ckSs T io C s st = true → PXSs X io W st (exSs (Gam T Φ) s)
  | .nil, io, C, X, W, p, x, w, st, h => by
    simp only [ckSs] at h
    split at h
    · exact pxss_cg pxss_nil fun ρ => by simp only [exSs]
    · cases h
  | .cons a as, io, C, X, W, p, x, w, st, h => by
    simp only [ckSs] at h
    split at h
    · obtain ⟨h1, h2⟩ := ba2 h
      exact pxss_cg (pxss_cons (sS a p x w h1) (sSs as p x w h2)) fun ρ => by
        simp only [exSs]
        unfold seqS
        cases exS (Gam T Φ) a ρ with
        | none => rfl
        | some fl => cases fl <;> rfl
    · cases h
  | .alt a b, io, C, X, W, p, x, w, st, h => by
    simp only [ckSs] at h
    obtain ⟨h1, h2⟩ := ba2 h
    exact pxss_cg (pxss_alt (sSs a p x w h1) (sSs b p x w h2)) fun ρ => by simp only [exSs]
  | .ali i pl body rest, io, C, X, W, p, x, w, st, h => by
    simp only [ckSs] at h
    split at h
    · rename_i zx zp zv zq zr
      obtain ⟨h1, h⟩ := ba2 h
      obtain ⟨h2, h⟩ := ba2 h
      obtain ⟨h3, h⟩ := ba2 h
      obtain ⟨h0, h⟩ := ba2 h
      obtain ⟨h4, h⟩ := ba2 h
      obtain ⟨h5, h6⟩ := ba2 h
      have ib := sSs body p x w h5
      have ir := sSs rest p x w h6
      have key := pxss_ali (X := X) (st := .Assign [.Name zx zp] zv zq) (of_decide_eq_true h3) (by simpa using h2) (ps_asg (x.pl h4) (x.store (p := zp) h1) (swaps_of h0 : swapsWith zv (some (.Name zx zp)) zq.line X.env = pure false) (swapped_no (by rfl) (fun ts q z => by cases z)) (by rfl)) ib ir
      rw [List.take_append_drop] at key
      exact pxss_cg key fun ρ => by
        simp only [exSs]
        rfl
    · cases h
end
end FL

/-! F18: the whole table: every def keeps what its evaluator says, at every depth. -/
namespace FL
open PySem PySem.Spec PyProof.Rows L2 StX
def fnScopeB (N P : List Str) (sc : Scope) : Bool := decide (sc.kind = .function) && (decide (sc.isCoroutine = false) && (decide (sc.isGenerator = false) && (decide N.Nodup && (decide (N.take P.length = P) && (P.all (fun x => locB sc x) && sc.names.all fun y => decide (y.2 ≠ .free))))))
theorem fnScopeB_ok {N P : List Str} {sc : Scope} (h : fnScopeB N P sc = true) : FnScope N P sc := by
  obtain ⟨h1, h⟩ := ba2 h
  obtain ⟨h2, h⟩ := ba2 h
  obtain ⟨h3, h⟩ := ba2 h
  obtain ⟨h4, h⟩ := ba2 h
  obtain ⟨h5, h⟩ := ba2 h
  obtain ⟨h6, h7⟩ := ba2 h
  exact ⟨of_decide_eq_true h1, of_decide_eq_true h2, of_decide_eq_true h3, of_decide_eq_true h4, of_decide_eq_true h5, fun x hx => locB_ok (List.all_eq_true.mp h6 x hx), fun y hy => of_decide_eq_true (List.all_eq_true.mp h7 y hy)⟩
def defChk (T : Tab) (fn : Fn) (body : List Stmt) (scope : Scope) : Bool := fnScopeB fn.N fn.ps scope && ckSs T fn.io ⟨fn.N, scope, fun _ => true⟩ fn.body body
section
variable {K : PySem.W.Frag} {Gf H : Hp} {N : List Addr}
theorem start_SR {vs : List V} {ds : List D} (h : SR K Gf N H (tmps vs ds)) (hl : vs.length = ds.length) : ∀ n : Nat, SR K Gf N H ((vs.map some ++ List.replicate n none).zip (ds.map some ++ List.replicate n none)) := fun n => by
  have e : ∀ (vs : List V) (ds : List D), vs.length = ds.length → (vs.map some ++ List.replicate n none).zip (ds.map some ++ List.replicate n none) = tmps vs ds ++ (List.replicate n (none : Option V)).zip (List.replicate n (none : Option D)) := by
    intro vs
    induction vs with
    | nil => intro ds h; cases ds <;> simp [tmps] at h ⊢
    | cons v vs ih =>
      intro ds h
      cases ds with
      | nil => simp at h
      | cons d ds => simp [tmps, ih ds (by simpa using h)]
  rw [e vs ds hl]
  have tail : ∀ n : Nat, SR K Gf N H ((List.replicate n (none : Option V)).zip (List.replicate n (none : Option D)) ++ tmps vs ds) := by
    intro n
    induction n with
    | zero => simpa using h
    | succ n ih => simp only [List.replicate_succ, List.zip_cons_cons, List.cons_append]; exact ih.skip
  exact (tail n).perm List.perm_append_comm
theorem outs_ok {io : List Nat} {ρ : Env} : ∀ (n i : Nat) {vs : List V} {σs : L2.St} {ρs : Env} {rs : List Root}, vs.length = n → (∀ (j : Nat) (v : V), vs[j]? = some v → (i + j) ∈ io → σs[j]? = some (some v)) → (∀ j : Nat, ρs[j]? = ρ[i + j]?) → σs.length = ρs.length → n ≤ σs.length →
    SR K Gf N H (rs ++ σs.zip ρs) → SR K Gf N H (rs ++ rootsA vs (outsFrom io ρ i n))
  | 0, i, [], σs, ρs, rs, _, _, _, _, _, h => by
    simp only [rootsA, List.append_nil]
    have h2 : SR K Gf N H (σs.zip ρs ++ rs) := h.perm List.perm_append_comm
    exact h2.dropL
  | 0, i, _ :: _, _, _, _, hl, _, _, _, _, _ => by simp at hl
  | n + 1, i, [], _, _, _, hl, _, _, _, _, _ => by simp at hl
  | n + 1, i, v :: vs, [], _, _, _, _, _, _, hn, _ => by simp at hn
  | n + 1, i, v :: vs, s :: σs, [], _, _, _, _, hz, _, _ => by simp at hz
  | n + 1, i, v :: vs, s :: σs, r :: ρs, rs, hl, ha, hr, hz, hn, h => by
    simp only [outsFrom, rootsA]
    have h0 : SR K Gf N H (rs ++ (s, r) :: σs.zip ρs) := by simpa using h
    have hr0 : ρ[i]? = some r := by have := hr 0; simpa using this.symm
    have key : SR K Gf N H ((rs ++ [(some v, if i ∈ io then getS ρ i else none)]) ++ σs.zip ρs) := by
      rw [List.append_assoc]
      by_cases hi : i ∈ io
      · rw [if_pos hi]
        have hs : s = some v := by have := ha 0 v rfl (by simpa using hi); simpa using this
        subst hs
        have hg : getS ρ i = r := by
          unfold getS
          rw [hr0]
          cases r <;> rfl
        rw [hg]
        exact h0
      · rw [if_neg hi]
        exact SR.fromFront (SR.skip (SR.drop (SR.toFront h0)))
    have := outs_ok (ρ := ρ) (io := io) n (i + 1) (vs := vs) (σs := σs) (ρs := ρs) (by simpa using hl) (fun j w hw hio => by have := ha (j + 1) w (by simpa using hw) (by rw [show i + (j + 1) = i + 1 + j by omega]; exact hio); simpa using this) (fun j => by have := hr (j + 1); rw [show i + 1 + j = i + (j + 1) by omega]; simpa using this) (by simpa using hz) (by simpa using hn) key
    rw [List.append_assoc] at this
    exact this
end
/-! ### the __init__ of an exception class; a def that asks for an integer, called in a suite -/
def xinitB (f : Str) : List Str → List Stmt → Scope → Bool
  | [s, v], [.Assign [.Attribute (.Name s' _) g _] (.Name v' _) _], sc => decide (s' = s) && (decide (v' = v) && (decide (g = f) && (fnScopeB [s, v] [s, v] sc && (nameOk ⟨[s, v], sc, fun _ => true⟩ 0 s && nameOk ⟨[s, v], sc, fun _ => true⟩ 1 v))))
  | _, _, _ => false
theorem xinit_ok {P : Program} {w : World} {K : PySem.W.Frag} {mg : Str → Option Value} {base : Heap} {CX : CXT} {k : Nat} {f x qual : Str} {params : Arguments} {body : List Stmt} {scope : Scope} {fI C : Addr} {fd : FuncData} {ps : List Str} (F : FunD K x qual params body scope [] [] fI fd) (h : xinitB f ps body scope = true)
    (T : OexC K C) (hno : PySem.W.findIn K (.ref C) f = some none) : FnOk P w K mg base CX (k + 1) fI fd ps (FX.spXI C f) := by
  unfold xinitB at h
  split at h
  · rename_i s v s' p1 g p2 v' p3 p4
    obtain ⟨h1, h⟩ := ba2 h
    obtain ⟨h2, h⟩ := ba2 h
    obtain ⟨h3, h⟩ := ba2 h
    obtain ⟨h4, h⟩ := ba2 h
    obtain ⟨h5, h6⟩ := ba2 h
    have e1 := of_decide_eq_true h1
    have e2 := of_decide_eq_true h2
    have e3 := of_decide_eq_true h3
    subst e1 e2 e3
    have S := fnScopeB_ok h4
    refine F.ok S (fun vs H Q E z => ?_) (fun cdv A outer st H vs Q E hr z => ?_)
    · obtain ⟨a, y, rfl, _⟩ := z; rfl
    · have hx : XC0 ⟨[s', v'], scope, fun _ => true⟩ (cxOf CX P w K mg base [s', v'] qual scope fI cdv A outer st H E) := ⟨rfl, rfl, rfl, S.nd⟩
      refine ⟨_, pss_cons (ps_ost (hx.var h5) (hx.var h6) swaps_attr) pss_nil, ?_⟩
      obtain ⟨a, y, rfl, ea, q⟩ := z
      exact ⟨y, rfl, .ref a, rfl, a, C, rfl, T, hno, .inl ⟨ea, fun dx hd hne => q dx hd hne⟩⟩
  · cases h
def isintB : List Str → List Stmt → Scope → Bool
  | [v], [.Return (some (.BoolOp .And [.Call (.Name f1 _) [.Name a1 _, .Name t1 _] [] _, .UnaryOp .Not (.Call (.Name f2 _) [.Name a2 _, .Name t2 _] [] _) _] _)) _], sc =>
    decide (f1 = ("isinstance" : Str)) && (decide (f2 = ("isinstance" : Str)) && (decide (t1 = ("int" : Str)) && (decide (t2 = ("bool" : Str)) && (fnScopeB [v] [v] sc && (nameOk ⟨[v], sc, fun _ => true⟩ 0 a1 && (nameOk ⟨[v], sc, fun _ => true⟩ 0 a2 &&
      (glB ⟨[v], sc, fun _ => true⟩ f1 && (glB ⟨[v], sc, fun _ => true⟩ t1 && glB ⟨[v], sc, fun _ => true⟩ t2))))))))
  | _, _, _ => false
def spInt : Sp := fun vs H Q _ => ∃ v b, vs = [v] ∧ intV v = some b ∧ Q (.bl b) H
theorem intV_D {v : V} {b : Bool} (h : intV v = some b) : ∃ d b', Flat v d ∧ isiD d (.bi "int") = some (b || b') ∧ isiD d (.bi "bool") = some b' ∧ (b = true → b' = false) := by
  cases v <;> simp only [intV, reduceCtorEq] at h <;> cases h
  · exact ⟨_, false, .non, rfl, rfl, fun z => by cases z⟩
  · exact ⟨_, true, .bl _, rfl, rfl, fun z => by cases z⟩
  · exact ⟨_, false, .int _, rfl, rfl, fun _ => rfl⟩
  · exact ⟨_, false, .str _, rfl, rfl, fun z => by cases z⟩
theorem SR.none {K : PySem.W.Frag} {H : Hp} : SR K (fun _ => none) [] H [] := ⟨fun a ha => by simp at ha, [], List.nodup_nil, .nil, fun a o e => by cases e⟩
theorem int_hot {P : Program} {w : World} {K : PySem.W.Frag} {mg : Str → Option Value} {base : Heap} {CX : CXT} {k : Nat} {x qual : Str} {params : Arguments} {body : List Stmt} {scope : Scope} {fI : Addr} {fd : FuncData} {ps : List Str} (F : FunD K x qual params body scope [] [] fI fd) (h : isintB ps body scope = true)
    (m1 : mg "isinstance" = none) (m2 : mg "int" = none) (m3 : mg "bool" = none) : L2H.FnH P w K mg base CX (k + 1) fI fd ps spInt := by
  unfold isintB at h
  split at h
  · rename_i v f1 p1 a1 p2 t1 p3 p4 f2 p5 a2 p6 t2 p7 p8 p9 p10 p11
    obtain ⟨h1, h⟩ := ba2 h
    obtain ⟨h2, h⟩ := ba2 h
    obtain ⟨h3, h⟩ := ba2 h
    obtain ⟨h4, h⟩ := ba2 h
    obtain ⟨h5, h⟩ := ba2 h
    obtain ⟨h6, h⟩ := ba2 h
    obtain ⟨h7, h⟩ := ba2 h
    obtain ⟨h8, h⟩ := ba2 h
    obtain ⟨h9, h10⟩ := ba2 h
    have e1 := of_decide_eq_true h1
    have e2 := of_decide_eq_true h2
    have e3 := of_decide_eq_true h3
    have e4 := of_decide_eq_true h4
    subst e1 e2 e3 e4
    have S := fnScopeB_ok h5
    obtain ⟨oc, od, dV, kV, doc, pm, an, cdv, ct, osl, rfl, lk, hcd, _, _⟩ := F.ex
    refine L2H.fn_ofH lk hcd S (fun vs H Q E z => ?_) (fun A outer s H vs Q E p hot hr z => ?_)
    · obtain ⟨y, b, rfl, _⟩ := z; rfl
    · have hx : XC0 ⟨[v], scope, fun _ => true⟩ (L2H.cxH CX P w K mg base [v] qual scope fI cdv A outer s H E p) := ⟨rfl, rfl, rfl, S.nd⟩
      obtain ⟨g1, g2⟩ := hx.gl h8
      obtain ⟨g3, g4⟩ := hx.gl h9
      obtain ⟨g5, g6⟩ := hx.gl h10
      refine ⟨_, pss_cons (ps_ret (pe_and (pe_callB call_isi g1 m1 PyProof.Rows.Boot.«isinstance» (pa_cons (hx.var h6) (pa_cons (pe_bltn g3 m2 (u := .type "int") (v := .ty "int") (by decide +kernel) rfl (by decide) g4) pa_nil rfl) rfl) (by decide) g2 rfl rfl)
        (pe_one (pe_not (pe_callB call_isi g1 m1 PyProof.Rows.Boot.«isinstance» (pa_cons (hx.var h7) (pa_cons (pe_bltn g5 m3 (u := .type "bool") (v := .ty "bool") (by decide +kernel) rfl (by decide) g6) pa_nil rfl) rfl) (by decide) g2 rfl rfl))))) pss_nil, ?_⟩
      obtain ⟨y, b, rfl, ei, q⟩ := z
      obtain ⟨d, b', fl, i1, i2, i3⟩ := intV_D ei
      have sr : SR K (fun _ => none) [] H [tmp y d] := SR.none.flat fl
      refine ⟨y, rfl, ?_⟩
      unfold tCons tC tNil
      dsimp only
      refine snd_isi sr (by decide) i1 ⟨_, rfl, ?_⟩
      cases hb : (b || b') with
      | true =>
        refine iteT ⟨y, rfl, ?_⟩
        refine snd_isi sr (by decide) i2 ⟨_, rfl, ?_⟩
        have : (!b') = b := by
          cases b <;> cases b' <;> simp at hb i3 ⊢
        rw [this]; exact q
      | false =>
        refine iteF ?_
        have : b = false := by cases b <;> simp at hb ⊢
        rw [this] at q; exact q
  · cases h
/-- what the top has left, for the table -/
structure ProgOk (T : Tab) (K : PySem.W.Frag) (mg : Str → Option Value) : Prop where
  cls : ClsOk K T.cs
  fns : ∀ (f : Nat) (fn : Fn), T.fns[f]? = some fn → ∃ x qual params body scope fd, FunD K x qual params body scope [] [] (He.fAd K fn.at_) fd ∧ Binds K fd fn.ps [] ∧ defChk T fn body scope = true
  glo : ∀ (f : Nat) (fn : Fn), T.fns[f]? = some fn → fn.at_.2 = none → mg fn.at_.1 = some (.ref (He.ga K fn.at_.1))
  mth : ∀ (c m : Str) (f : Nat), ((c, m), f) ∈ T.ms → ∃ fn : Fn, T.fns[f]? = some fn ∧ fn.at_ = (c, some m) ∧ Meth K (He.ga K c) m (He.ma K (He.ga K c) m) ∧ Cls K (He.ga K c)
  mak : ∀ (f : Nat) (fn : Fn) (c : Str), T.fns[f]? = some fn → fn.at_ = (c, some ("__init__" : Str)) → Mk K (He.ga K c) (He.ma K (He.ga K c) "__init__") ∧ mg c = some (.ref (He.ga K c))
  xg : ∀ q ∈ T.xt, mg q.1 = some (.ref (He.ga K q.1)) ∧ FX.XFacts K (He.ga K q.1)
  x0 : ∀ q ∈ T.xt, (∀ r ∈ T.xi, r.1 ≠ q.1) → PySem.W.excIn K (He.ga K q.1) He.veBase "ValueError.__new__" = true ∧ PySem.W.keepIn K (.ref (He.ga K q.1)) = true ∧ PySem.W.subIn K (.ref (He.ga K q.1)) (.type "BaseException") = some true ∧ PySem.W.typeIn K (.ref (He.ga K q.1)) = some (.type "type")
  x1 : ∀ q ∈ T.xi, mg q.1 = some (.ref (He.ga K q.1)) ∧ OexC K (He.ga K q.1) ∧ PySem.W.findIn K (.ref (He.ga K q.1)) q.2 = some none ∧ ∃ fI x qual params body scope fd ps, FunD K x qual params body scope [] [] fI fd ∧ PySem.W.findIn K (.ref (He.ga K q.1)) "__init__" = some (some (.ref fI)) ∧ PySem.W.typeIn K (.ref fI) = some (.type "function") ∧ Binds K fd ps [] ∧ xinitB q.2 ps body scope = true
  xe : ∀ q ∈ T.xt, ∀ r ∈ T.xt, PySem.W.exmOne K (.ref (He.ga K q.1)) (.ref (He.ga K r.1)) = some (q.2.contains r.1)
  xk : ∀ q ∈ T.xt, (∀ r ∈ T.xt, PySem.W.kitOne K (.ref (He.ga K q.1)) (.ref (He.ga K r.1)) = some (q.2.contains r.1)) ∧ PySem.W.kitOne K (.ref (He.ga K q.1)) (.type "ValueError") = some (q.2.contains ("ValueError" : Str))
  xn : ∀ q ∈ T.xt, ∀ r ∈ T.xi, PySem.W.findIn K (.ref (He.ga K q.1)) r.2 = some none
  xv : mg "ValueError" = none
  oc : ∀ c ∈ T.oc, mg c = some (.ref (He.ga K c)) ∧ OcOk K (He.ga K c)
  eqc : ∀ c f, ((c, Str.ofString "__eq__"), f) ∈ T.ms → c ∈ T.oc
  isn : ∀ f ∈ T.isn, ∀ fn : Fn, T.fns[f]? = some fn → fn.at_.2 = none ∧ ∃ x qual params body scope fd, FunD K x qual params body scope [] [] (He.fAd K fn.at_) fd ∧ Binds K fd fn.ps [] ∧ isintB fn.ps body scope = true
  free : ∀ x ∈ (["len", "int", "list", "tuple", "sum", "abs", "min", "max", "all", "any", "range", "zip", "enumerate", "isinstance", "bool", "str", "dict"] : List Str), mg x = none
theorem run_s {T : Tab} {k f : Nat} {ds : List D} : run T (k + 1) f ds = (T.fns[f]?).bind fun fn => runFn ⟨run T k, runX T k, T.cs, T.ms, T.xt⟩ fn ds := rfl
theorem runX_s {T : Tab} {k f : Nat} {ds : List D} : runX T (k + 1) f ds = (T.fns[f]?).bind fun fn => runFnX ⟨run T k, runX T k, T.cs, T.ms, T.xt⟩ fn ds := rfl
theorem run_0 {T : Tab} {f : Nat} {ds : List D} : run T 0 f ds = none := rfl
theorem runX_0 {T : Tab} {f : Nat} {ds : List D} : runX T 0 f ds = none := rfl
theorem run_ar {T : Tab} {n f : Nat} {ds : List D} {r : D × List (Option D)} (h : run T n f ds = some r) : ∃ fn : Fn, T.fns[f]? = some fn ∧ ds.length = fn.ps.length := by
  cases n with
  | zero => rw [run_0] at h; cases h
  | succ n =>
    rw [run_s] at h
    obtain ⟨fn, e, h⟩ := bnd h
    unfold runFn at h
    split at h
    · exact ⟨fn, e, by assumption⟩
    · cases h
theorem runX_ar {T : Tab} {n f : Nat} {ds : List D} {r : Exn × List (Option D)} (h : runX T n f ds = some r) : ∃ fn : Fn, T.fns[f]? = some fn ∧ ds.length = fn.ps.length := by
  cases n with
  | zero => rw [runX_0] at h; cases h
  | succ n =>
    rw [runX_s] at h
    obtain ⟨fn, e, h⟩ := bnd h
    unfold runFnX at h
    split at h
    · exact ⟨fn, e, by assumption⟩
    · cases h
theorem te_one {te : TE} {σ : L2.St} {H : Hp} {Q : VK} (z : te σ H fun v H1 => ∃ b, intV v = some b ∧ Q (.bl b) H1) : te σ H fun v H1 => spInt [v] H1 Q fun _ _ _ => False := by
  have : (fun (v : V) (H1 : Hp) => ∃ b, intV v = some b ∧ Q (.bl b) H1) = fun v H1 => spInt [v] H1 Q fun _ _ _ => False := by
    funext v H1
    apply propext
    constructor
    · rintro ⟨b, h1, h2⟩; exact ⟨v, b, rfl, h1, h2⟩
    · rintro ⟨v', b, e, h1, h2⟩; cases e; exact ⟨b, h1, h2⟩
  rw [← this]; exact z
theorem fn_in {T : Tab} {K : PySem.W.Frag} {mg : Str → Option Value} (O : ProgOk T K mg) {f : Nat} {fn : Fn} (e : T.fns[f]? = some fn) : PySem.W.fnIn K (He.fAd K fn.at_) = true := by
  obtain ⟨x, qual, params, body, scope, fd, F1, _⟩ := O.fns f fn e
  obtain ⟨_, _, _, _, _, _, _, _, _, _, _, lk, _⟩ := F1.ex
  unfold PySem.W.fnIn
  simp only [lk]
theorem fn_step {T : Tab} {P : Program} {w : World} {K : PySem.W.Frag} {mg : Str → Option Value} {base : Heap} (O : ProgOk T K mg) {n : Nat}
    (ih : ∀ (f : Nat) (fn : Fn), T.fns[f]? = some fn → ∃ fd, FnOk P w K mg base (L2N.CX P w) (2 * n + 2) (He.fAd K fn.at_) fd fn.ps (spOf K fn.ps.length (run T n f) (runX T n f)) ∧ Binds K fd fn.ps [] ∧ PySem.W.keepIn K (.ref (He.fAd K fn.at_)) = true)
    {f : Nat} {fn : Fn} (e : T.fns[f]? = some fn) {x qual : Str} {params : Arguments} {body : List Stmt} {scope : Scope} {fd : FuncData} (F : FunD K x qual params body scope [] [] (He.fAd K fn.at_) fd) (hck : defChk T fn body scope = true) :
    FnOk P w K mg base (L2N.CX P w) (2 * (n + 1) + 2) (He.fAd K fn.at_) fd fn.ps (spOf K fn.ps.length (run T (n + 1) f) (runX T (n + 1) f)) := by
    obtain ⟨hS, hb⟩ := ba2 hck
    have S := fnScopeB_ok hS
    refine F.ok (k := 2 * n + 3) S (fun vs H Q E h => ?_) (fun cdv A outer s H vs Q E hr h => ?_)
    · obtain ⟨_, _, _, _, z, _⟩ := h; exact z
    · have hp : XP T (run T n, runX T n) (2 * n + 2) (cxOf (L2N.CX P w) P w K mg base fn.N qual scope (He.fAd K fn.at_) cdv A outer s H E) :=
        ⟨hr, O.cls, ih, fun f fn e => fn_in O e, fun f ds r h => run_ar h, fun f ds r h => runX_ar h, O.glo, O.mth, O.mak, O.xg, fun q hq hn => by
            obtain ⟨z1, z2, z3, z4⟩ := O.x0 q hq hn
            exact ⟨z1, z2, raises_own z3 z4⟩, fun q hq => by
            obtain ⟨z1, z2, z3, fI, x, qual, params, body, scope, fd, ps, F1, z4, z5, z6, z7⟩ := O.x1 q hq
            exact ⟨z1, z2, fI, fd, ps, z4, z5, z6, xinit_ok F1 z7 z2 z3⟩, O.xe, O.xk, O.xn, O.xv, O.oc, O.eqc, O.free⟩
      have hx : XC ⟨fn.N, scope, fun _ => true⟩ (cxOf (L2N.CX P w) P w K mg base fn.N qual scope (He.fAd K fn.at_) cdv A outer s H E) := ⟨⟨rfl, rfl, rfl, S.nd⟩, rfl⟩
      have hw : XS T (cxOf (L2N.CX P w) P w K mg base fn.N qual scope (He.fAd K fn.at_) cdv A outer s H E) (fun cls d _ H => E cls d H) :=
        ⟨S.kind, passes_of rfl, rfl, rfl, L2N.takes_of rfl rfl rfl rfl, fun f1 hf1 a oe pn cls d hz hf y e1 te q pos a1 a2 a3 a4 a5 => by
          obtain ⟨fn1, b1, b2⟩ := mpd a1
          obtain ⟨_, x1, qual1, params1, body1, scope1, fd1, F1, B1, c1⟩ := O.isn f1 hf1 fn1 b1
          have ea : He.fAd K fn1.at_ = He.ga K y := by rw [b2]; rfl
          have hm := O.glo f1 fn1 b1 (by rw [b2])
          rw [b2] at hm
          rw [ea] at F1
          have FH := int_hot (P := P) (w := w) (mg := mg) (base := base) (CX := L2N.CX P w) (k := 2 * n + 1) F1 c1 (O.free _ (by decide +kernel)) (O.free _ (by decide +kernel)) (O.free _ (by decide +kernel))
          have hot : L2H.HotC ((cxOf (L2N.CX P w) P w K mg base fn.N qual scope (He.fAd K fn.at_) cdv A outer s H E).suite a ((a, oe) :: pn)) := by
            obtain ⟨fv, hv⟩ := hf
            exact ⟨(a, oe), ⟨rfl, fv, hv, hz.2.2 fv hv⟩, List.mem_cons_self ..⟩
          refine pe_imp (L2H.pe_callH (E := fun _ _ _ _ => False) FH ⟨(hr.mono (j := 2 * n + 2) (by omega)).dp, (hr.mono (j := 2 * n + 2) (by omega)).un⟩ hot a2 hm F1.kp B1 (fun σ _ _ _ _ _ _ z => ?_) (pa_cons a5 pa_nil (star_no a4)) a3 (star_no a4) rfl) fun σ H Q z => ?_
          · obtain ⟨_, _, _, _, _, _, _, _, _, _, _, _, z⟩ := z
            exact z.elim
          · exact te_one z⟩
      have hs := sSs (T := T) (Φ := (run T n, runX T n)) fn.body hp hx hw hb
      refine ⟨_, hs, ?_⟩
      obtain ⟨Gf, N, ds, l1, l2, hSR, er⟩ := h
      have hpl : fn.ps.length ≤ fn.N.length := by have := congrArg List.length S.pre; rw [List.length_take] at this; omega
      have hlen : (L2.start fn.N vs).length = (ds.map some ++ List.replicate (fn.N.length - ds.length) (none : Option D)).length := by
        unfold L2.start; simp [l1]
      have h0 : SR K Gf N H ([] ++ (L2.start fn.N vs).zip (ds.map some ++ List.replicate (fn.N.length - ds.length) none)) := by
        unfold L2.start
        rw [l1]
        exact start_SR hSR l1 _
      have hsl : fn.ps.length ≤ (L2.start fn.N vs).length := by unfold L2.start; simp; omega
      have fin : ∀ (rs : List Root) (σ' : L2.St) (H' : Hp) (ρ' : Env), Agree fn.io (L2.start fn.N vs) σ' → σ'.length = ρ'.length → SR K Gf N H' (rs ++ σ'.zip ρ') → fn.ps.length ≤ σ'.length → SR K Gf N H' (rs ++ rootsA vs (outsFrom fn.io ρ' 0 fn.ps.length)) := by
        intro rs σ' H' ρ' ag hl' hs' hle
        refine outs_ok fn.ps.length 0 l2 (fun j v hv hio => ?_) (fun j => by rw [Nat.zero_add]) hl' hle hs'
        rw [Nat.zero_add] at hio
        rw [ag.2 j hio]
        unfold L2.start
        have hj : j < vs.length := (List.getElem?_eq_some_iff.mp hv).1
        rw [List.getElem?_append_left (by simpa using hj), List.getElem?_map, hv]
        rfl
      rcases er with ⟨r, er, q⟩ | ⟨r, er, q⟩
      · rw [run_s, e] at er
        simp only [Option.bind_some] at er
        unfold runFn at er
        split at er
        · obtain ⟨fl, ef, er⟩ := bnd er
          refine ⟨Gf, N, [], _, hlen, h0, fl, ef, ?_⟩
          cases fl with
          | nx ρ' =>
            cases er
            intro σ' H' ag hl' hs'
            refine q .non H' ?_
            exact fin [tmp .non .non] σ' H' ρ' ag hl' (SR.flat hs' .non) (by rw [ag.1]; exact hsl)
          | rt d ρ' =>
            cases er
            intro v σ' H' ag hl' hs'
            refine q v H' ?_
            exact fin [tmp v d] σ' H' ρ' ag hl' hs' (by rw [ag.1]; exact hsl)
          | bk ρ' => cases er
          | ct ρ' => cases er
          | ex x ρ' => cases er
        · cases er
      · rw [runX_s, e] at er
        simp only [Option.bind_some] at er
        unfold runFnX at er
        split at er
        · obtain ⟨fl, ef, er⟩ := bnd er
          refine ⟨Gf, N, [], _, hlen, h0, fl, ef, ?_⟩
          cases fl with
          | ex x ρ' =>
            cases er
            intro cls d σ' H' ag hl' hs'
            exact q cls d H' (hs'.imp fun ts h1 => fin ts σ' H' ρ' ag hl' (by rw [List.nil_append] at h1; exact h1) (by rw [ag.1]; exact hsl))
          | nx ρ' => cases er
          | rt d ρ' => cases er
          | bk ρ' => cases er
          | ct ρ' => cases er
        · cases er
theorem table_ok {T : Tab} {P : Program} {w : World} {K : PySem.W.Frag} {mg : Str → Option Value} {base : Heap} (O : ProgOk T K mg) : ∀ (n f : Nat) (fn : Fn), T.fns[f]? = some fn →
    ∃ fd, FnOk P w K mg base (L2N.CX P w) (2 * n + 2) (He.fAd K fn.at_) fd fn.ps (spOf K fn.ps.length (run T n f) (runX T n f)) ∧ Binds K fd fn.ps [] ∧ PySem.W.keepIn K (.ref (He.fAd K fn.at_)) = true
  | 0, f, fn, e => by
    obtain ⟨x, qual, params, body, scope, fd, F, B, _⟩ := O.fns f fn e
    have no : ∀ vs H Q E, ¬ spOf K fn.ps.length (run T 0 f) (runX T 0 f) vs H Q E := fun vs H Q E h => by
      obtain ⟨_, _, _, _, _, _, h⟩ := h
      rcases h with ⟨r, z, _⟩ | ⟨r, z, _⟩
      · rw [run_0] at z; cases z
      · rw [runX_0] at z; cases z
    exact ⟨fd, ⟨fun vs H Q E h => (no _ _ _ _ h).elim, fun A outer s H args us vs Q E _ _ _ _ h => (no _ _ _ _ h).elim⟩, B, F.kp⟩
  | n + 1, f, fn, e => by
    obtain ⟨x, qual, params, body, scope, fd, F, B, hck⟩ := O.fns f fn e
    exact ⟨fd, fn_step O (table_ok O n) e F hck, B, F.kp⟩
end FL

/-! F19: from the head's facts to the table; the law's end. -/
namespace FL
open PySem PySem.Spec PyProof.Rows L2 StX
def AllP {α : Type} (P : α → Prop) : List α → Prop
  | [] => True
  | x :: l => P x ∧ AllP P l
theorem AllP.get {α : Type} {P : α → Prop} : ∀ {l : List α} {i : Nat} {x : α}, AllP P l → l[i]? = some x → P x
  | [], _, _, _, h => by simp at h
  | y :: l, 0, x, a, h => by simp at h; subst h; exact a.1
  | y :: l, i + 1, x, a, h => AllP.get (l := l) (i := i) a.2 (by simpa using h)
def FnFact (T : Tab) (K : PySem.W.Frag) (fn : Fn) : Prop := ∃ x qual params body scope fd, FunD K x qual params body scope [] [] (He.fAd K fn.at_) fd ∧ Binds K fd fn.ps [] ∧ defChk T fn body scope = true
def XFact (K : PySem.W.Frag) (q : Str × Str) : Prop := ∃ x qual params body scope fd ps, FunD K x qual params body scope [] [] (He.fAd K (q.1, some ("__init__" : Str))) fd ∧ Binds K fd ps [] ∧ xinitB q.2 ps body scope = true
def IsnFact (T : Tab) (K : PySem.W.Frag) (f : Nat) : Prop := ∀ fn : Fn, T.fns[f]? = some fn → fn.at_.2 = none ∧ ∃ x qual params body scope fd, FunD K x qual params body scope [] [] (He.fAd K fn.at_) fd ∧ Binds K fd fn.ps [] ∧ isintB fn.ps body scope = true
def freeN : List Str := ["ValueError", "len", "int", "list", "tuple", "sum", "abs", "min", "max", "all", "any", "range", "zip", "enumerate", "isinstance", "bool", "str", "dict"]
def faCls (T : Tab) : List He.Fa := T.cs.flatMap fun c => He.Fa.cls c.1 :: c.2.map fun f => He.Fa.noat c.1 f
def faGlo (T : Tab) : List He.Fa := T.fns.filterMap fun fn => match fn.at_.2 with
  | none => some (He.Fa.glo fn.at_.1)
  | some _ => none
def faMth (T : Tab) : List He.Fa := T.ms.map fun q => He.Fa.meth q.1.1 q.1.2
def faMak (T : Tab) : List He.Fa := T.fns.flatMap fun fn => if fn.at_.2 = some ("__init__" : Str) then [He.Fa.mkr fn.at_.1, He.Fa.glo fn.at_.1] else []
def faXt (T : Tab) : List He.Fa := T.xt.map fun q => He.Fa.glo q.1
def faOf (T : Tab) : List He.Fa := faCls T ++ (faGlo T ++ (faMth T ++ (faMak T ++ (faXt T ++ (freeN.map He.Fa.free ++ T.oc.map He.Fa.glo)))))
/-! ### the exception classes, by the written part -/
def oexB (K : PySem.W.Frag) (C : Addr) : Bool := (match K.lookup C with
  | some ⟨.type "type", _, .cls cd, sl⟩ => (match cd.mro, sl.toList with
    | .ref C' :: bm, [_, _, _, _, some (.builtin n), _] => decide (C' = C) && (decide (n = "ValueError.__new__") && (!cd.hasDel && (cd.hasDict && PySem.HandSPX.refsVE bm)))
    | _, _ => false)
  | _ => false) && (He.eqO (PySem.W.findIn K (.ref C) "__setattr__") (some (some (.builtin "object.__setattr__"))) && (decide (PySem.W.subIn K (.ref C) (.type "BaseException") = some true) && (decide (PySem.W.typeIn K (.ref C) = some (.type "type")) && PySem.W.keepIn K (.ref C))))
theorem oexB_ok {K : PySem.W.Frag} {C : Addr} (h : oexB K C = true) : OexC K C := by
  obtain ⟨h1, h⟩ := ba2 h
  obtain ⟨h2, h⟩ := ba2 h
  obtain ⟨h3, h⟩ := ba2 h
  obtain ⟨h4, h5⟩ := ba2 h
  refine ⟨?_, He.eqO_ok h2, of_decide_eq_true h3, of_decide_eq_true h4, h5⟩
  split at h1
  · rename_i dd cd sl ho
    split at h1
    · rename_i C' bm k0 k1 k2 k3 n k5 hm hs
      obtain ⟨c1, h1⟩ := ba2 h1
      obtain ⟨c2, h1⟩ := ba2 h1
      obtain ⟨c3, h1⟩ := ba2 h1
      obtain ⟨c4, c5⟩ := ba2 h1
      have e1 := of_decide_eq_true c1
      have e2 := of_decide_eq_true c2
      subst e1 e2
      obtain ⟨nm, bs, mro, ns, qn, hd, sn, sub, ab, col, del⟩ := cd
      dsimp only at hm c3 c4
      have c3 : del = false := by simpa using c3
      subst hm c3 c4
      have hsl : sl = #[k0, k1, k2, k3, some (.builtin "ValueError.__new__"), k5] := by
        obtain ⟨l⟩ := sl
        simp only at hs
        rw [hs]
      subst hsl
      exact ⟨nm, qn, ns, bs, bm, sn, sub, ab, col, dd, k0, k1, k2, k3, k5, ho, c5⟩
    · cases h1
  · cases h1
def xfB (K : PySem.W.Frag) (C : Addr) : Bool := (PySem.W.clsIn K C).isSome && (He.eqO (PySem.W.findIn K (.ref C) "__getattribute__") (some (some (.builtin "BaseException.__getattribute__"))) && (He.eqO (PySem.W.findIn K (.ref C) "__getattr__") (some none) && (decide (PySem.W.subIn K (.ref C) (.type "BaseException") = some true) &&
  (PySem.W.hasDictIn K C && (He.eqO (PySem.W.findIn K (.ref C) "__class__") (some (some (.builtin "object.__class__"))) && (He.eqO (PySem.W.specialIn K (.builtin "object.__class__") "__get__") (some (some (.builtin "getset_descriptor.__get__"))) && (decide (PySem.W.takesIn K (.builtin "object.__class__") = some true) && decide (PySem.W.mroIn K C (.type "object") = some true))))))))
theorem xfB_ok' {K : PySem.W.Frag} {C : Addr} (h : xfB K C = true) : FX.XFacts K C := by
  obtain ⟨h1, h⟩ := ba2 h
  obtain ⟨h2, h⟩ := ba2 h
  obtain ⟨h3, h⟩ := ba2 h
  obtain ⟨h4, h⟩ := ba2 h
  obtain ⟨h5, h⟩ := ba2 h
  obtain ⟨h6, h⟩ := ba2 h
  obtain ⟨h7, h⟩ := ba2 h
  obtain ⟨h8, h9⟩ := ba2 h
  exact ⟨h1, He.eqO_ok h2, He.eqO_ok h3, of_decide_eq_true h4, h5, He.eqO_ok h6, He.eqO_ok h7, of_decide_eq_true h8, of_decide_eq_true h9⟩
def x0B (K : PySem.W.Frag) (C : Addr) : Bool := PySem.W.excIn K C He.veBase "ValueError.__new__" && (PySem.W.keepIn K (.ref C) && (decide (PySem.W.subIn K (.ref C) (.type "BaseException") = some true) && decide (PySem.W.typeIn K (.ref C) = some (.type "type"))))
def x1B (K : PySem.W.Frag) (q : Str × Str) : Bool := oexB K (He.ga K q.1) && (He.eqO (PySem.W.findIn K (.ref (He.ga K q.1)) q.2) (some none) && (He.eqO (PySem.W.findIn K (.ref (He.ga K q.1)) "__init__") (some (some (.ref (He.fAd K (q.1, some ("__init__" : Str)))))) && decide (PySem.W.typeIn K (.ref (He.fAd K (q.1, some ("__init__" : Str)))) = some (.type "function"))))
def xtB (T : Tab) (K : PySem.W.Frag) (q : Str × List Str) : Bool := xfB K (He.ga K q.1) && (((T.xi.any fun r => decide (r.1 = q.1)) || x0B K (He.ga K q.1)) && ((T.xt.all fun r => decide (PySem.W.exmOne K (.ref (He.ga K q.1)) (.ref (He.ga K r.1)) = some (q.2.contains r.1)) && decide (PySem.W.kitOne K (.ref (He.ga K q.1)) (.ref (He.ga K r.1)) = some (q.2.contains r.1))) &&
  (decide (PySem.W.kitOne K (.ref (He.ga K q.1)) (.type "ValueError") = some (q.2.contains ("ValueError" : Str))) && T.xi.all fun r => He.eqO (PySem.W.findIn K (.ref (He.ga K q.1)) r.2) (some none))))
/-- an own class that is asked for -/
def ocB (K : PySem.W.Frag) (C : Addr) : Bool := He.eqO (PySem.W.findIn K (.ref C) "__class__") (some (some (.builtin "object.__class__"))) && (He.eqO (PySem.W.specialIn K (.builtin "object.__class__") "__get__") (some (some (.builtin "getset_descriptor.__get__"))) && (decide (PySem.W.takesIn K (.builtin "object.__class__") = some true) && (decide (PySem.W.mroIn K C (.type "object") = some true) &&
  (FX.tyNames.all (fun n => decide (PySem.W.kitOne K (.type n) (.ref C) = some false)) && FX.tyNames.all fun n => decide (PySem.W.subIn K (.type n) (.ref C) = some false)))))
theorem ocB_ok {K : PySem.W.Frag} {C : Addr} (hc : Cls K C) (h : ocB K C = true) : OcOk K C := by
  obtain ⟨h1, h⟩ := ba2 h
  obtain ⟨h2, h⟩ := ba2 h
  obtain ⟨h3, h⟩ := ba2 h
  obtain ⟨h4, h⟩ := ba2 h
  obtain ⟨h5, h6⟩ := ba2 h
  exact ⟨He.eqO_ok h1, He.eqO_ok h2, of_decide_eq_true h3, of_decide_eq_true h4, hc, fun n hn => of_decide_eq_true (List.all_eq_true.mp h5 n hn), fun n hn => of_decide_eq_true (List.all_eq_true.mp h6 n hn)⟩
def xAll (T : Tab) (K : PySem.W.Frag) : Bool := T.xt.all (xtB T K) && (T.xi.all (x1B K) && ((T.xi.all fun r => T.xt.any fun q => decide (q.1 = r.1)) && T.oc.all fun c => ocB K (He.ga K c)))
def msChk (T : Tab) : Bool := T.ms.all fun q => (match T.fns[q.2]? with
  | some fn => decide (fn.at_ = (q.1.1, some q.1.2))
  | none => false) && (T.cs.any (fun c => decide (c.1 = q.1.1)) && (!(decide (q.1.2 = Str.ofString "__eq__")) || T.oc.contains q.1.1))
def ocChk (T : Tab) : Bool := T.oc.all fun c => T.cs.any fun q => decide (q.1 = c)
theorem prog_ok {T : Tab} {K : PySem.W.Frag} {mg : Str → Option Value} {h : Heap} (X : K.In h) (G : h.Ns mainGlobals mg) (hfa : ∀ f ∈ faOf T, f.ok K = true) (hms : msChk T = true) (hoc : ocChk T = true) (hfn : AllP (FnFact T K) T.fns) (hx : xAll T K = true) (hxi : ∀ q ∈ T.xi, XFact K q) (hisn : ∀ f ∈ T.isn, IsnFact T K f) : ProgOk T K mg := by
  have f1 : ∀ f ∈ faCls T, f.ok K = true := fun f hf => hfa f (List.mem_append_left _ hf)
  have f2 : ∀ f ∈ faGlo T, f.ok K = true := fun f hf => hfa f (List.mem_append_right _ (List.mem_append_left _ hf))
  have f3 : ∀ f ∈ faMth T, f.ok K = true := fun f hf => hfa f (List.mem_append_right _ (List.mem_append_right _ (List.mem_append_left _ hf)))
  have f4 : ∀ f ∈ faMak T, f.ok K = true := fun f hf => hfa f (List.mem_append_right _ (List.mem_append_right _ (List.mem_append_right _ (List.mem_append_left _ hf))))
  have f5 : ∀ f ∈ freeN.map He.Fa.free, f.ok K = true := fun f hf => hfa f (List.mem_append_right _ (List.mem_append_right _ (List.mem_append_right _ (List.mem_append_right _ (List.mem_append_right _ (List.mem_append_left _ hf))))))
  have f7 : ∀ f ∈ T.oc.map He.Fa.glo, f.ok K = true := fun f hf => hfa f (List.mem_append_right _ (List.mem_append_right _ (List.mem_append_right _ (List.mem_append_right _ (List.mem_append_right _ (List.mem_append_right _ hf))))))
  have f6 : ∀ f ∈ faXt T, f.ok K = true := fun f hf => hfa f (List.mem_append_right _ (List.mem_append_right _ (List.mem_append_right _ (List.mem_append_right _ (List.mem_append_left _ hf)))))
  obtain ⟨x1, hx⟩ := ba2 hx
  obtain ⟨x2, hx⟩ := ba2 hx
  obtain ⟨x3, x4⟩ := ba2 hx
  have xa := fun q hq => List.all_eq_true.mp x1 q hq
  have xg : ∀ q ∈ T.xt, mg q.1 = some (.ref (He.ga K q.1)) := fun q hq => He.glo_ok X G (f6 (.glo q.1) (List.mem_map.mpr ⟨q, hq, rfl⟩))
  have hc : ∀ c ∈ T.cs, Cls K (He.ga K c.1) := fun c hc => He.cls_ok (f1 (.cls c.1) (List.mem_flatMap.mpr ⟨c, hc, by simp⟩))
  refine ⟨fun c hcc => ⟨hc c hcc, fun f hf => He.noat_ok (f1 (.noat c.1 f) (List.mem_flatMap.mpr ⟨c, hcc, by simp [hf]⟩))⟩, fun f fn e => AllP.get (P := FnFact T K) hfn e, fun f fn e hn => ?_, fun c m f hm => ?_, fun f fn c e ha => ?_, fun q hq => ⟨xg q hq, xfB_ok' (ba2 (xa q hq)).1⟩, fun q hq hn => ?_, fun q hq => ?_, fun q hq r hr => ?_, fun q hq => ⟨fun r hr => ?_, ?_⟩, fun q hq r hr => ?_, He.free_ok X G (f5 (.free "ValueError") (List.mem_cons_self ..)), fun c hcc => ?_, fun c f hm => ?_, hisn, fun x hx => ?_⟩
  · refine He.glo_ok X G (f2 (.glo fn.at_.1) (List.mem_filterMap.mpr ⟨fn, List.mem_of_getElem? e, ?_⟩))
    rw [hn]
  · have q := List.all_eq_true.mp hms _ hm
    obtain ⟨q1, q2⟩ := ba2 q
    obtain ⟨q2, _⟩ := ba2 q2
    simp only at q1
    split at q1
    · rename_i fn e
      obtain ⟨c', hc', ec⟩ := List.any_eq_true.mp q2
      have ec := of_decide_eq_true ec
      refine ⟨fn, e, of_decide_eq_true q1, He.meth_ok (f3 (.meth c m) (List.mem_map.mpr ⟨_, hm, rfl⟩)), ?_⟩
      have := hc c' hc'
      rw [ec] at this
      exact this
    · cases q1
  · have m1 : ∀ z ∈ [He.Fa.mkr fn.at_.1, He.Fa.glo fn.at_.1], z.ok K = true := fun z hz => f4 z (List.mem_flatMap.mpr ⟨fn, List.mem_of_getElem? e, by rw [ha]; rw [if_pos rfl]; rw [ha] at hz; exact hz⟩)
    have e1 : fn.at_.1 = c := by rw [ha]
    rw [e1] at m1
    exact ⟨He.mkr_ok (m1 _ (by simp)), He.glo_ok X G (m1 (.glo c) (by simp))⟩
  · obtain ⟨y1, _⟩ := ba2 (ba2 (xa q hq)).2
    rcases Bool.or_eq_true_iff.mp y1 with y | y
    · obtain ⟨r, hr, er⟩ := any_mem y
      exact absurd (of_decide_eq_true er) (hn r hr)
    · obtain ⟨c1, y⟩ := ba2 y
      obtain ⟨c2, y⟩ := ba2 y
      obtain ⟨c3, c4⟩ := ba2 y
      exact ⟨c1, c2, of_decide_eq_true c3, of_decide_eq_true c4⟩
  · obtain ⟨c1, y⟩ := ba2 (List.all_eq_true.mp x2 q hq)
    obtain ⟨c2, y⟩ := ba2 y
    obtain ⟨c3, c4⟩ := ba2 y
    obtain ⟨r, hr, er⟩ := any_mem (List.all_eq_true.mp x3 q hq)
    have er := of_decide_eq_true er
    have g := xg r hr
    rw [er] at g
    obtain ⟨x, qual, params, body, scope, fd, ps, F, B, z⟩ := hxi q hq
    exact ⟨g, oexB_ok c1, He.eqO_ok c2, _, x, qual, params, body, scope, fd, ps, F, He.eqO_ok c3, of_decide_eq_true c4, B, z⟩
  · obtain ⟨_, y⟩ := ba2 (ba2 (xa q hq)).2
    exact of_decide_eq_true (ba2 (List.all_eq_true.mp (ba2 y).1 r hr)).1
  · obtain ⟨_, y⟩ := ba2 (ba2 (xa q hq)).2
    exact of_decide_eq_true (ba2 (List.all_eq_true.mp (ba2 y).1 r hr)).2
  · obtain ⟨_, y⟩ := ba2 (ba2 (xa q hq)).2
    exact of_decide_eq_true (ba2 (ba2 y).2).1
  · obtain ⟨_, y⟩ := ba2 (ba2 (xa q hq)).2
    exact He.eqO_ok (List.all_eq_true.mp (ba2 (ba2 y).2).2 r hr)
  · refine ⟨He.glo_ok X G (f7 (.glo c) (List.mem_map.mpr ⟨c, hcc, rfl⟩)), ?_⟩
    obtain ⟨q, hq, eq⟩ := List.any_eq_true.mp (List.all_eq_true.mp hoc c hcc)
    have eq := of_decide_eq_true eq
    have := hc q hq
    rw [eq] at this
    exact ocB_ok this (List.all_eq_true.mp x4 c hcc)
  · obtain ⟨_, q2⟩ := ba2 (List.all_eq_true.mp hms _ hm)
    obtain ⟨_, q3⟩ := ba2 q2
    simpa using q3
  · exact He.free_ok X G (f5 (.free x) (List.mem_map.mpr ⟨x, List.mem_cons_of_mem _ hx, rfl⟩))
/-- the law's own promise holds where the evaluator says True -/
theorem law_sp {T : Tab} {K : PySem.W.Frag} {n i : Nat} {H : Hp} {a : Addr} {ns : List Int} {E : XK} (hS : SqL K H a (ns.map V.int)) (h : ∃ r, run T n i [.lst .frz (ns.map D.int)] = some r ∧ r.1 = .bl true) :
    spOf K 1 (run T n i) (runX T n i) [.ref a] H (fun v _ => v = .bl true) E := by
  obtain ⟨r, e, e1⟩ := h
  have hid0 : hid [] H = H := by funext b; unfold hid; simp
  have rep : ∀ ns : List Int, Reps K H H (ns.map V.int) (ns.map D.int) [] := by
    intro ns
    induction ns with
    | nil => exact .nil
    | cons n ns ih => exact Reps.cons (F1 := []) (F2 := []) (.int n) ih
  refine ⟨H, [], [.lst .frz (ns.map D.int)], rfl, rfl, ⟨fun b hb => by simp at hb, [], List.nodup_nil, ?_, by rw [hid0]; exact Le.refl⟩, .inl ⟨r, e, fun v H' h' => ?_⟩⟩
  · rw [List.append_nil, hid0]
    exact RepO.cons (F1 := []) (F2 := []) (.lstF hS (rep ns)) .nil
  · rw [e1] at h'
    exact h'.isBl
/-- the law's def, at its own function object -/
theorem law_fn {T : Tab} {P : Program} {w : World} {K : PySem.W.Frag} {mg : Str → Option Value} {base : Heap} (O : ProgOk T K mg) (n : Nat) {i : Nat} {fn : Fn} (e : T.fns[i]? = some fn) {x qual : Str} {params : Arguments} {body : List Stmt} {scope : Scope} {fd : FuncData}
    (F : FunD K x qual params body scope [] [] (He.fAd K fn.at_) fd) (hck : defChk T fn body scope = true) : FnOk P w K mg base (L2N.CX P w) (2 * (n + 1) + 2) (He.fAd K fn.at_) fd fn.ps (spOf K fn.ps.length (run T (n + 1) i) (runX T (n + 1) i)) :=
  fn_step O (table_ok O n) e F hck
theorem run_eq {T : Tab} {k f : Nat} {fn : Fn} {ds : List D} (h : T.fns[f]? = some fn) : run T (k + 1) f ds = runFn ⟨run T k, runX T k, T.cs, T.ms, T.xt⟩ fn ds := by
  rw [run_s, h]
  rfl
theorem runX_eq {T : Tab} {k f : Nat} {fn : Fn} {ds : List D} (h : T.fns[f]? = some fn) : runX T (k + 1) f ds = runFnX ⟨run T k, runX T k, T.cs, T.ms, T.xt⟩ fn ds := by
  rw [runX_s, h]
  rfl
theorem AllP.mem {α : Type} {P : α → Prop} : ∀ {l : List α}, AllP P l → ∀ x ∈ l, P x
  | [], _, x, h => by simp at h
  | y :: l, a, x, h => by
    rcases List.mem_cons.mp h with rfl | h
    · exact a.1
    · exact AllP.mem a.2 x h
/-- the law's end, where what leaves a def hangs on the world -/
theorem law_end {l : PySem.W.OpenLaw} {n k : Nat} {q : Program} {loose : List Str} {XP : (Str → Option Value) → Heap → Prop} {YP : World → Heap → Prop} {d : DefRec} {x : Str} (most : l.most = some n) (small : n ≤ sizeLine) (nodef : d.params.defaults = []) (room : Room k callerA)
    (F : ∀ (w : World) (mg : Str → Option Value) (fa : Addr) (h : Heap), YP w h → h.Ns mainGlobals mg → mg d.name = some (.ref fa) → ∃ (K : PySem.W.Frag) (fd : FuncData) (sp : Sp), K.In h ∧ (∀ (s : Shared) (u : Value), BindsTo s fd ⟨[u], []⟩ [(x, u)]) ∧
      (∀ (H : Hp) (a : Addr) (ns : List Int), ns.length ≤ n → Only H → SqL K H a (ns.map V.int) → sp [.ref a] H (fun v _ => v = .bl true) fun _ _ _ => False) ∧ ∀ base : Heap, K.In base → base.Ns mainGlobals mg → FnOk l.prog w K mg base (L2N.CX l.prog w) k fa fd [x] sp) :
    PySem.W.WalkO q loose XP YP l.row.toRowW d [] (fun f vs => PySem.call f vs) :=
  Att.attach_call most nodef fun w _ t1 mg _ fa _ _ _ _ a _ ns G Y _ _ _ hmg hobj hints hlen hg => by
    obtain ⟨K, fd, sp, KX, hb, hsp, hF⟩ := F w mg fa _ Y G.T.g hmg
    refine law_call KX G.T.g G.T.b G.T.builtins G.T.nolimit hg hobj hints (Nat.le_trans hlen small) room hF hb (fun H hO hS => hsp H a ns hlen hO hS) fun H e s' z => ?_
    obtain ⟨_, _, _, _, _, _, _, _, _, _, _, _, z⟩ := z
    exact z
end FL

/-! F20: how to reckon with the evaluator. -/
namespace FL
open PySem PySem.Spec PyProof.Rows L2
/-! ### environments -/
theorem gS0 (d : Option D) (ρ : Env) : getS (d :: ρ) 0 = d := by unfold getS; cases d <;> rfl
theorem gSs (d : Option D) (ρ : Env) (i : Nat) : getS (d :: ρ) (i + 1) = getS ρ i := by unfold getS; simp
theorem pS0 (x : Option D) (d : D) (ρ : Env) : putS (x :: ρ) 0 d = some (some d :: ρ) := by simp [putS]
theorem pSs (x : Option D) (d : D) (ρ : Env) (i : Nat) : putS (x :: ρ) (i + 1) d = (putS ρ i d).map (x :: ·) := by
  unfold putS
  simp only [List.length_cons, Nat.add_lt_add_iff_right, List.set_cons_succ]
  split <;> rfl
/-! ### the evaluator, construct by construct -/
section
variable (Γ : Ctx) (ρ : Env)
@[simp] theorem e_cst (c : Cst) : evE Γ (.cst c) ρ = some (evCst c, ρ) := by simp only [evE]
@[simp] theorem e_var (i : Nat) : evE Γ (.var i) ρ = (getS ρ i).map fun d => (share d, ρ.set i (some (share d))) := by simp only [evE]
@[simp] theorem e_mov (i : Nat) : evE Γ (.mov i) ρ = (getS ρ i).map fun d => (d, ρ.set i none) := by simp only [evE]
@[simp] theorem e_bin (op : BOp) (a b : E) : evE Γ (.bin op a b) ρ = (evE Γ a ρ).bind fun p => (evE Γ b p.2).bind fun q => (binD op p.1 q.1).map fun d => (d, q.2) := by simp only [evE]
def negD : D → Option D
  | .int i => some (.int (-i))
  | _ => none
def notD : D → Option D
  | .bl b => some (.bl (!b))
  | _ => none
@[simp] theorem negD_int (i : Int) : negD (.int i) = some (.int (-i)) := Eq.trans rfl rfl
@[simp] theorem notD_bl (b : Bool) : notD (.bl b) = some (.bl (!b)) := Eq.trans rfl rfl
@[simp] theorem e_neg (a : E) : evE Γ (.neg a) ρ = (evE Γ a ρ).bind fun p => (negD p.1).map fun d => (d, p.2) := by
  simp only [evE]; congr 1; funext p; obtain ⟨d, r⟩ := p; cases d <;> rfl
@[simp] theorem e_not (a : E) : evE Γ (.not a) ρ = (evE Γ a ρ).bind fun p => (notD p.1).map fun d => (d, p.2) := by
  simp only [evE]; congr 1; funext p; obtain ⟨d, r⟩ := p; cases d <;> rfl
@[simp] theorem e_and (es : Es) : evE Γ (.and es) ρ = (evAnd Γ es ρ).map fun p => (.bl p.1, p.2) := by simp only [evE]
@[simp] theorem e_or (es : Es) : evE Γ (.or es) ρ = (evOr Γ es ρ).map fun p => (.bl p.1, p.2) := by simp only [evE]
@[simp] theorem e_cmp (op : COp) (a b : E) : evE Γ (.cmp op a b) ρ = (evE Γ a ρ).bind fun p => (evE Γ b p.2).bind fun q => (cmpD op p.1 q.1).map fun d => (.bl d, q.2) := by simp only [evE]
@[simp] theorem e_chn (op op' : COp) (a b c : E) : evE Γ (.chn op op' a b c) ρ = (evE Γ a ρ).bind fun p => (evE Γ b p.2).bind fun q => (cmpD op p.1 (share q.1)).bind fun d => if d = true then (evE Γ c q.2).bind fun r => (cmpD op' (share q.1) r.1).map fun d' => (.bl d', r.2) else some (.bl false, q.2) := by simp only [evE]
@[simp] theorem e_lst (es : Es) : evE Γ (.lst es) ρ = (evEs Γ es ρ).bind fun p => if p.1.length ≤ SZ then some (.lst .own p.1, p.2) else none := by simp only [evE]
@[simp] theorem e_tup (es : Es) : evE Γ (.tup es) ρ = (evEs Γ es ρ).bind fun p => if p.1.length ≤ SZ then some (.tup p.1, p.2) else none := by simp only [evE]
@[simp] theorem e_idx (a b : E) : evE Γ (.idx a b) ρ = (evE Γ a ρ).bind fun p => (evE Γ b p.2).bind fun q => (idxD p.1 q.1).map fun d => (d, q.2) := by simp only [evE]
@[simp] theorem e_idv (i : Nat) (b : E) : evE Γ (.idv i b) ρ = (getS ρ i).bind fun _ => (evE Γ b ρ).bind fun p => (getS p.2 i).bind fun x => (idvD x p.1).map fun r => (r.1, p.2.set i (some r.2)) := by simp only [evE]
@[simp] theorem e_slc (a : E) (lo hi : OE) : evE Γ (.slc a lo hi) ρ = (evE Γ a ρ).bind fun p => (evO Γ lo p.2).bind fun l => (evO Γ hi l.2).bind fun h => (slcD p.1 l.1 h.1).map fun d => (d, h.2) := by simp only [evE]
@[simp] theorem e_call (f : Nat) (as : As) : evE Γ (.call f as) ρ = (evAs Γ as ρ).bind fun p => (takeA as p.1 p.2).bind fun q => (Γ.fs f q.1).bind fun r => (putA as r.2 q.2).map fun ρ' => (r.1, ρ') := by simp only [evE]
@[simp] theorem e_meth (m : PySem.Str) (o : A) (as : As) : evE Γ (.meth m o as) ρ = (evA Γ o ρ).bind fun x => (recvD o x.1 x.2).bind fun s => (methD Γ.ms m s).bind fun f => (evAs Γ as x.2).bind fun p => (takeA (.cons o as) (x.1 :: p.1) p.2).bind fun q => (Γ.fs f q.1).bind fun r => (putA (.cons o as) r.2 q.2).map fun ρ' => (r.1, ρ') := by simp only [evE]
def madeD : D × List (Option D) → Option (D × List (Option D))
  | (.non, some d :: os) => some (d, os)
  | _ => none
@[simp] theorem madeD_mk (d : D) (os : List (Option D)) : madeD (.non, some d :: os) = some (d, os) := Eq.trans rfl rfl
@[simp] theorem e_make (c : PySem.Str) (f : Nat) (as : As) : evE Γ (.make c f as) ρ = (evAs Γ as ρ).bind fun p => (takeA as p.1 p.2).bind fun q => (Γ.fs f (.obj .own c [] [] :: q.1)).bind fun r => (madeD r).bind fun z => (putA as z.2 q.2).map fun ρ' => (z.1, ρ') := by
  simp only [evE]; congr 1; funext p; congr 1; funext q; congr 1; funext r
  obtain ⟨d, os⟩ := r
  cases d <;> (cases os with
    | nil => rfl
    | cons o os => cases o <;> rfl)
@[simp] theorem e_blt (b : Blt) (es : Es) : evE Γ (.blt b es) ρ = (evEs Γ es ρ).bind fun p => (bltD b p.1).map fun d => (d, p.2) := by simp only [evE]
@[simp] theorem e_isi (a : E) (t : Ty) : evE Γ (.isi a t) ρ = (evE Γ a ρ).bind fun p => (isiD p.1 t).map fun b => (.bl b, p.2) := by simp only [evE]
@[simp] theorem e_fld (a : E) (f : PySem.Str) : evE Γ (.fld a f) ρ = (evE Γ a ρ).bind fun p => if hasFld Γ.cs f p.1 = true then (fldD p.1 f).map fun d => (d, p.2) else none := by simp only [evE]
@[simp] theorem e_flv (i : Nat) (f : PySem.Str) : evE Γ (.flv i f) ρ = (getS ρ i).bind fun x => if hasFld Γ.cs f x = true then (flvD x f).map fun r => (r.1, ρ.set i (some r.2)) else none := by simp only [evE]
@[simp] theorem e_comp (elt : E) (t : Tg) (it : It) (cond : OE) : evE Γ (.comp elt t it cond) ρ = (evIt Γ it ρ).bind fun p => (compL (bindT t) (evC Γ cond) (evE Γ elt) t.slots p.1 (wipeD p.2 t.slots) []).map fun q => (.lst .own q.1, q.2) := by simp only [evE]
@[simp] theorem e_shr (a : E) : evE Γ (.shr a) ρ = (evE Γ a ρ).map fun p => (share p.1, p.2) := by simp only [evE]
@[simp] theorem e_lnv (i : Nat) : evE Γ (.lnv i) ρ = (getS ρ i).bind fun d => (lenD d).map fun n => (n, ρ) := by simp only [evE]
def asB' : D → Option Bool
  | .bl b => some b
  | _ => none
@[simp] theorem asB'_bl (b : Bool) : asB' (.bl b) = some b := Eq.trans rfl rfl
@[simp] theorem e_comp2 (elt : E) (t1 : Tg) (it1 : It) (t2 : Tg) (it2 : It) (cond : OE) : evE Γ (.comp2 elt t1 it1 t2 it2 cond) ρ = (evIt Γ it1 ρ).bind fun p => (comp2L t1 t2 (evIt Γ it2) (evC Γ cond) (evE Γ elt) p.1 (wipeD p.2 (t1.slots ++ t2.slots)) []).map fun q => (.lst .own q.1, q.2) := by simp only [evE]
@[simp] theorem e_bor (a : E) : evE Γ (.bor a) ρ = (evE Γ a (viewD ρ)).bind fun p => if closedD p.1 = true then some (p.1, ρ) else none := by simp only [evE]
@[simp] theorem e_ite (c a b : E) : evE Γ (.ite c a b) ρ = (evE Γ c ρ).bind fun p => (asB' p.1).bind fun k => if k = true then evE Γ a p.2 else evE Γ b p.2 := by
  simp only [evE]; congr 1; funext p; obtain ⟨d, r⟩ := p
  cases d with
  | bl b => cases b <;> rfl
  | _ => rfl
@[simp] theorem viewD_nil : viewD [] = [] := by simp [viewD]
@[simp] theorem viewD_cons (o : Option D) (ρ : Env) : viewD (o :: ρ) = o.map share :: viewD ρ := by simp [viewD]
@[simp] theorem cl_tup (xs : List D) : closedD (.tup xs) = closedL xs := by simp only [closedD]
@[simp] theorem cl_lst (xs : List D) : closedD (.lst .own xs) = closedL xs := by simp only [closedD]
@[simp] theorem cl_bl (b : Bool) : closedD (.bl b) = true := by simp only [closedD]
@[simp] theorem cl_int (b : Int) : closedD (.int b) = true := by simp only [closedD]
@[simp] theorem cl_str (b : PySem.Str) : closedD (.str b) = true := by simp only [closedD]
@[simp] theorem cl_non : closedD .non = true := by simp only [closedD]
@[simp] theorem cl_nil : closedL [] = true := by simp only [closedL]
@[simp] theorem cl_cons (d : D) (ds : List D) : closedL (d :: ds) = (closedD d && closedL ds) := by simp only [closedL]
theorem closedL_all (ds : List D) : closedL ds = ds.all closedD := by
  induction ds with
  | nil => simp
  | cons d ds ih => simp [ih]
def asB : D → Option Bool
  | .bl b => some b
  | _ => none
@[simp] theorem asB_bl (b : Bool) : asB (.bl b) = some b := Eq.trans rfl rfl
@[simp] theorem c_no : evC Γ .no ρ = some (true, ρ) := by simp only [evC]
@[simp] theorem c_yes (e : E) : evC Γ (.yes e) ρ = (evE Γ e ρ).bind fun p => (asB p.1).map fun b => (b, p.2) := by
  simp only [evC]; congr 1; funext p; obtain ⟨d, r⟩ := p; cases d <;> rfl
def asI : D → Option Int
  | .int i => some i
  | _ => none
@[simp] theorem asI_int (i : Int) : asI (.int i) = some i := Eq.trans rfl rfl
@[simp] theorem o_no : evO Γ .no ρ = some (none, ρ) := by simp only [evO]
@[simp] theorem o_yes (e : E) : evO Γ (.yes e) ρ = (evE Γ e ρ).bind fun p => (asI p.1).map fun b => (some b, p.2) := by
  simp only [evO]; congr 1; funext p; obtain ⟨d, r⟩ := p; cases d <;> rfl
@[simp] theorem and_1 (e : E) : evAnd Γ (.cons e .nil) ρ = (evE Γ e ρ).bind fun p => (asB p.1).map fun b => (b, p.2) := by
  simp only [evAnd]; congr 1; funext p; obtain ⟨d, r⟩ := p; cases d <;> rfl
@[simp] theorem and_2 (e e' : E) (es : Es) : evAnd Γ (.cons e (.cons e' es)) ρ = (evE Γ e ρ).bind fun p => (asB p.1).bind fun b => if b = true then evAnd Γ (.cons e' es) p.2 else some (false, p.2) := by
  rw [evAnd]
  · congr 1; funext p; obtain ⟨d, r⟩ := p
    cases d with
    | bl b => cases b <;> rfl
    | _ => rfl
  · simp
@[simp] theorem or_1 (e : E) : evOr Γ (.cons e .nil) ρ = (evE Γ e ρ).bind fun p => (asB p.1).map fun b => (b, p.2) := by
  simp only [evOr]; congr 1; funext p; obtain ⟨d, r⟩ := p; cases d <;> rfl
@[simp] theorem or_2 (e e' : E) (es : Es) : evOr Γ (.cons e (.cons e' es)) ρ = (evE Γ e ρ).bind fun p => (asB p.1).bind fun b => if b = true then some (true, p.2) else evOr Γ (.cons e' es) p.2 := by
  rw [evOr]
  · congr 1; funext p; obtain ⟨d, r⟩ := p
    cases d with
    | bl b => cases b <;> rfl
    | _ => rfl
  · simp
@[simp] theorem es_nil : evEs Γ .nil ρ = some ([], ρ) := by simp only [evEs]
@[simp] theorem es_cons (e : E) (es : Es) : evEs Γ (.cons e es) ρ = (evE Γ e ρ).bind fun p => (evEs Γ es p.2).map fun q => (p.1 :: q.1, q.2) := by simp only [evEs]
def itemsO : D → Option (List D)
  | .tup xs => some (shares xs)
  | .lst _ xs => some (shares xs)
  | _ => none
@[simp] theorem itemsO_tup (xs : List D) : itemsO (.tup xs) = some (shares xs) := Eq.trans rfl rfl
@[simp] theorem itemsO_lst (f : Fl) (xs : List D) : itemsO (.lst f xs) = some (shares xs) := Eq.trans rfl rfl
@[simp] theorem es_star (e : E) (es : Es) : evEs Γ (.star e es) ρ = (evE Γ e ρ).bind fun p => (itemsO p.1).bind fun xs => (evEs Γ es p.2).map fun q => (xs ++ q.1, q.2) := by
  simp only [evEs]; congr 1; funext p; obtain ⟨d, r⟩ := p; cases d <;> rfl
@[simp] theorem a_val (e : E) : evA Γ (.val e) ρ = (evE Γ e ρ).map fun p => (some p.1, p.2) := by simp only [evA]
@[simp] theorem a_ref (i : Nat) : evA Γ (.ref i) ρ = (getS ρ i).map fun _ => (none, ρ) := by simp only [evA]
@[simp] theorem as_nil : evAs Γ .nil ρ = some ([], ρ) := by simp only [evAs]
@[simp] theorem as_cons (a : A) (as : As) : evAs Γ (.cons a as) ρ = (evA Γ a ρ).bind fun p => (evAs Γ as p.2).map fun q => (p.1 :: q.1, q.2) := by simp only [evAs]
@[simp] theorem it_seq (e : E) : evIt Γ (.seq e) ρ = (evE Γ e ρ).bind fun p => (itemsO p.1).map fun xs => (xs, p.2) := by
  simp only [evIt]; congr 1; funext p; obtain ⟨d, r⟩ := p; cases d <;> rfl
noncomputable def rngO : D → Option (List D)
  | .int n => @ite _ (-(2 ^ 62) ≤ n ∧ n < 2 ^ 62) (Classical.propDecidable _) (some (rngL 0 n.toNat)) none
  | _ => none
@[simp] theorem it_rng (e : E) : evIt Γ (.rng e) ρ = (evE Γ e ρ).bind fun p => (rngO p.1).map fun xs => (xs, p.2) := by
  simp only [evIt]; congr 1; funext p; obtain ⟨d, r⟩ := p
  cases d with
  | int n =>
    simp only [rngO]
    by_cases h : -(2 ^ 62) ≤ n ∧ n < 2 ^ 62
    · rw [if_pos h, if_pos h]; rfl
    · rw [if_neg h, if_neg h]; rfl
  | _ => rfl
def zipO : D → D → Option (List D)
  | .lst _ xs, .lst _ ys => some (zipL (shares xs) (shares ys))
  | _, _ => none
@[simp] theorem zipO_lst (f g : Fl) (xs ys : List D) : zipO (.lst f xs) (.lst g ys) = some (zipL (shares xs) (shares ys)) := Eq.trans rfl rfl
@[simp] theorem it_zip (a b : E) : evIt Γ (.zip a b) ρ = (evE Γ a ρ).bind fun p => (evE Γ b p.2).bind fun q => (zipO p.1 q.1).map fun xs => (xs, q.2) := by
  simp only [evIt]; congr 1; funext p; congr 1; funext q; obtain ⟨d, r⟩ := p; obtain ⟨d', r'⟩ := q; cases d <;> cases d' <;> rfl
def enumO : D → Option (List D)
  | .lst _ xs => some (enumL 0 (shares xs))
  | _ => none
@[simp] theorem enumO_lst (f : Fl) (xs : List D) : enumO (.lst f xs) = some (enumL 0 (shares xs)) := Eq.trans rfl rfl
@[simp] theorem it_enum (e : E) : evIt Γ (.enum e) ρ = (evE Γ e ρ).bind fun p => (enumO p.1).map fun xs => (xs, p.2) := by
  simp only [evIt]; congr 1; funext p; obtain ⟨d, r⟩ := p; cases d <;> rfl
/-! statements -/
@[simp] theorem s_set (t : Tg) (e : E) : exS Γ (.set t e) ρ = (evE Γ e ρ).bind fun p => (bindT t p.1 p.2).map .nx := by simp only [exS]
@[simp] theorem s_setI (i : Nat) (b e : E) : exS Γ (.setI i b e) ρ = (evE Γ e ρ).bind fun p => (getS p.2 i).bind fun _ => (evE Γ b p.2).bind fun q => (getS q.2 i).bind fun x => (setID x q.1 p.1).map fun z => .nx (q.2.set i (some z)) := by simp only [exS]
@[simp] theorem s_setF (i : Nat) (f : PySem.Str) (e : E) : exS Γ (.setF i f e) ρ = (evE Γ e ρ).bind fun p => (getS p.2 i).bind fun x => if hasFld Γ.cs f x = true then (setFD x f p.1).map fun z => .nx (p.2.set i (some z)) else none := by simp only [exS]
@[simp] theorem s_aug (i : Nat) (op : BOp) (e : E) : exS Γ (.aug i op e) ρ = (getS ρ i).bind fun x => (evE Γ e ρ).bind fun p => (augD op x p.1).bind fun z => (putS p.2 i z).map .nx := by simp only [exS]
@[simp] theorem s_app (i : Nat) (e : E) : exS Γ (.app i e) ρ = (getS ρ i).bind fun x0 => if isLst x0 = true then (evE Γ e ρ).bind fun p => (getS p.2 i).bind fun x => (appD x p.1).map fun z => .nx (p.2.set i (some z)) else none := by simp only [exS]
@[simp] theorem s_ex (e : E) : exS Γ (.ex e) ρ = (evE Γ e ρ).map fun p => .nx p.2 := by simp only [exS]
@[simp] theorem s_ite (c : E) (a b : Ss) : exS Γ (.ite c a b) ρ = (evE Γ c ρ).bind fun p => (asB p.1).bind fun k => if k = true then exSs Γ a p.2 else exSs Γ b p.2 := by
  simp only [exS]; congr 1; funext p; obtain ⟨d, r⟩ := p
  cases d with
  | bl b => cases b <;> rfl
  | _ => rfl
@[simp] theorem s_loop (t : Tg) (it : It) (b : Ss) : exS Γ (.loop t it b) ρ = (evIt Γ it ρ).bind fun p => forL (bindT t) (exSs Γ b) p.1 p.2 := by simp only [exS]
@[simp] theorem s_whl (c : E) (b : Ss) : exS Γ (.whl c b) ρ = whlD (evC Γ (.yes c)) (exSs Γ b) ρ := by simp only [exS]
@[simp] theorem s_ret (e : E) : exS Γ (.ret e) ρ = (evE Γ e ρ).map fun p => .rt p.1 p.2 := by simp only [exS]
@[simp] theorem s_retN : exS Γ .retN ρ = some (.rt .non ρ) := by simp only [exS]
@[simp] theorem s_brk : exS Γ .brk ρ = some (.bk ρ) := by simp only [exS]
@[simp] theorem s_cnt : exS Γ .cnt ρ = some (.ct ρ) := by simp only [exS]
@[simp] theorem s_pass : exS Γ .pass ρ = some (.nx ρ) := by simp only [exS]
@[simp] theorem s_setP (p : Pl) (ix : Ix) (e : E) : exS Γ (.setP p ix e) ρ = (evE Γ e ρ).bind fun q => (getP q.2 p).bind fun x => (ixD q.2 ix).bind fun n => (setID x (.int n) q.1).bind fun x' => (putP q.2 p x').map fun z => .nx (q.2.set p.base (some z)) := by simp only [exS]
@[simp] theorem s_mutP (p : Pl) (op : MOp) (es : Es) : exS Γ (.mutP p op es) ρ = (getP ρ p).bind fun x => (lstO x).bind fun ds => (evEs Γ es (ρ.set p.base none)).bind fun q => (mopD op ds q.1).bind fun ds' => (putP ρ p (.lst .own ds')).map fun z => .nx (q.2.set p.base (some z)) := by simp only [exS]
def borF (is : List Nat) (ρ : Env) (x : Option Flow) : Option Flow := x.bind fun fl => match fl with
    | .nx _ => some (.nx (wipeD ρ is))
    | .rt d _ => if closedD d = true then some (.rt d (wipeD ρ is)) else none
    | _ => none
@[simp] theorem s_bor (is : List Nat) (s : S) : exS Γ (.bor is s) ρ = borF is ρ (exS Γ s (viewD ρ)) := by simp only [exS]; rfl
@[simp] theorem borF_nx (is : List Nat) (r : Env) : borF is ρ (some (.nx r)) = some (.nx (wipeD ρ is)) := Eq.trans rfl rfl
@[simp] theorem borF_rt (is : List Nat) (d : D) (r : Env) : borF is ρ (some (.rt d r)) = if closedD d = true then some (.rt d (wipeD ρ is)) else none := Eq.trans rfl rfl
/-- what follows a statement -/
def thenS (x : Option Flow) (k : Env → Option Flow) : Option Flow := x.bind fun fl => match fl with
  | .nx ρ1 => k ρ1
  | fl => some fl
@[simp] theorem thenS_nx (k : Env → Option Flow) : thenS (some (.nx ρ)) k = k ρ := Eq.trans rfl rfl
@[simp] theorem thenS_rt (d : D) (k : Env → Option Flow) : thenS (some (.rt d ρ)) k = some (.rt d ρ) := Eq.trans rfl rfl
@[simp] theorem thenS_bk (k : Env → Option Flow) : thenS (some (.bk ρ)) k = some (.bk ρ) := Eq.trans rfl rfl
@[simp] theorem thenS_ct (k : Env → Option Flow) : thenS (some (.ct ρ)) k = some (.ct ρ) := Eq.trans rfl rfl
@[simp] theorem ss_nil : exSs Γ .nil ρ = some (.nx ρ) := by simp only [exSs]
@[simp] theorem ss_cons (s : S) (ss : Ss) : exSs Γ (.cons s ss) ρ = thenS (exS Γ s ρ) (exSs Γ ss) := by
  simp only [exSs, thenS] <;> rfl
theorem ss_alt (a b : Ss) : exSs Γ (.alt a b) ρ = altF (exSs Γ a ρ) (exSs Γ b ρ) := by simp only [exSs]
theorem alt_l {a b : Option Flow} {fl : Flow} (h : a = some fl) : altF a b = some fl := by rw [h]; rfl
theorem alt_r {a b : Option Flow} (h : a = none) : altF a b = b := by rw [h]; rfl
theorem ss_ali (i : Nat) (p : Pl) (body rest : Ss) : exSs Γ (.ali i p body rest) ρ = (getP ρ p).bind fun y => (ixsD ρ p).bind fun ns => thenS (allV fun v => ((putP ρ p (.hole v)).bind fun z => putS (ρ.set p.base (some z)) i y).bind fun ρ1 => (exSs Γ body ρ1).bind (giveF i p.base ns v)) (exSs Γ rest) := by
  simp only [exSs, thenS] <;> rfl
end
/-- a def's end -/
def endF (io : List Nat) (n : Nat) (x : Option Flow) : Option (D × List (Option D)) := x.bind fun fl => match fl with
  | .nx ρ => some (.non, outsFrom io ρ 0 n)
  | .rt d ρ => some (d, outsFrom io ρ 0 n)
  | _ => none
@[simp] theorem endF_nx (io : List Nat) (n : Nat) (ρ : Env) : endF io n (some (.nx ρ)) = some (.non, outsFrom io ρ 0 n) := Eq.trans rfl rfl
@[simp] theorem endF_rt (io : List Nat) (n : Nat) (d : D) (ρ : Env) : endF io n (some (.rt d ρ)) = some (d, outsFrom io ρ 0 n) := Eq.trans rfl rfl
theorem runFn_eq {Γ : Ctx} {fn : Fn} {ds : List D} (h : ds.length = fn.ps.length) : runFn Γ fn ds = endF fn.io fn.ps.length (exSs Γ fn.body (ds.map some ++ List.replicate (fn.N.length - ds.length) none)) := by
  unfold runFn endF
  (rw [if_pos h]) <;> rfl
@[simp] theorem gS0' (d : Option D) (ρ : Env) : getS (d :: ρ) 0 = d := gS0 d ρ
@[simp] theorem gSs' (d : Option D) (ρ : Env) (i : Nat) : getS (d :: ρ) (i + 1) = getS ρ i := gSs d ρ i
@[simp] theorem pS0' (x : Option D) (d : D) (ρ : Env) : putS (x :: ρ) 0 d = some (some d :: ρ) := pS0 x d ρ
@[simp] theorem pSs' (x : Option D) (d : D) (ρ : Env) (i : Nat) : putS (x :: ρ) (i + 1) d = (putS ρ i d).map (x :: ·) := pSs x d ρ i
@[simp] theorem bT_name (i : Nat) (d : D) (ρ : Env) : bindT (.name i) d ρ = putS ρ i d := Eq.trans rfl rfl
@[simp] theorem bT_names (is : List Nat) (ds : List D) (ρ : Env) : bindT (.names is) (.tup ds) ρ = if is.length = ds.length then putAll ρ is ds else none := Eq.trans rfl rfl
@[simp] theorem pA_nil (ρ : Env) : putAll ρ [] [] = some ρ := Eq.trans rfl rfl
@[simp] theorem pA_cons (ρ : Env) (i : Nat) (is : List Nat) (d : D) (ds : List D) : putAll ρ (i :: is) (d :: ds) = (putS ρ i d).bind fun ρ1 => putAll ρ1 is ds := Eq.trans rfl rfl
@[simp] theorem tk_nil (ρ : Env) : takeA .nil [] ρ = some ([], ρ) := Eq.trans rfl rfl
@[simp] theorem tk_val (e : E) (as : As) (d : D) (ds : List (Option D)) (ρ : Env) : takeA (.cons (.val e) as) (some d :: ds) ρ = (takeA as ds ρ).map fun p => (d :: p.1, p.2) := Eq.trans rfl rfl
@[simp] theorem tk_ref (i : Nat) (as : As) (ds : List (Option D)) (ρ : Env) : takeA (.cons (.ref i) as) (none :: ds) ρ = (getS ρ i).bind fun d => (takeA as ds (ρ.set i none)).map fun p => (d :: p.1, p.2) := Eq.trans rfl rfl
@[simp] theorem pt_nil (ρ : Env) : putA .nil [] ρ = some ρ := Eq.trans rfl rfl
@[simp] theorem pt_val (e : E) (as : As) (o : Option D) (os : List (Option D)) (ρ : Env) : putA (.cons (.val e) as) (o :: os) ρ = putA as os ρ := Eq.trans rfl rfl
@[simp] theorem pt_ref (i : Nat) (as : As) (d : D) (os : List (Option D)) (ρ : Env) : putA (.cons (.ref i) as) (some d :: os) ρ = putA as os (ρ.set i (some d)) := Eq.trans rfl rfl
@[simp] theorem rv_val (e : E) (x : Option D) (ρ : Env) : recvD (.val e) x ρ = x := Eq.trans rfl rfl
@[simp] theorem rv_ref (i : Nat) (x : Option D) (ρ : Env) : recvD (.ref i) x ρ = getS ρ i := Eq.trans rfl rfl
@[simp] theorem slots_name (i : Nat) : (Tg.name i).slots = [i] := Eq.trans rfl rfl
@[simp] theorem slots_names (is : List Nat) : (Tg.names is).slots = is := Eq.trans rfl rfl
@[simp] theorem wipeD_nil (ρ : Env) : wipeD ρ [] = ρ := Eq.trans rfl rfl
@[simp] theorem wipeD_cons (ρ : Env) (v : Nat) (vs : List Nat) : wipeD ρ (v :: vs) = (wipeD ρ vs).set v none := Eq.trans rfl rfl
@[simp] theorem outs_0 (io : List Nat) (ρ : Env) (i : Nat) : outsFrom io ρ i 0 = [] := Eq.trans rfl rfl
@[simp] theorem outs_s (io : List Nat) (ρ : Env) (i n : Nat) : outsFrom io ρ i (n + 1) = (if i ∈ io then getS ρ i else none) :: outsFrom io ρ (i + 1) n := Eq.trans rfl rfl
/-! ### operations on known data -/
@[simp] theorem cst_non : evCst .non = .non := Eq.trans rfl rfl
@[simp] theorem cst_bl (b : Bool) : evCst (.bl b) = .bl b := Eq.trans rfl rfl
@[simp] theorem cst_int (i : Int) : evCst (.int i) = .int i := Eq.trans rfl rfl
@[simp] theorem cst_str (x : PySem.Str) : evCst (.str x) = .str x := Eq.trans rfl rfl
@[simp] theorem b_add (a b : Int) : binD .add (.int a) (.int b) = some (.int (a + b)) := Eq.trans rfl rfl
@[simp] theorem b_sub (a b : Int) : binD .sub (.int a) (.int b) = some (.int (a - b)) := Eq.trans rfl rfl
@[simp] theorem sh_non : share .non = .non := by simp [share]
@[simp] theorem sh_bl (b : Bool) : share (.bl b) = .bl b := by simp [share]
@[simp] theorem sh_int (i : Int) : share (.int i) = .int i := by simp [share]
@[simp] theorem sh_str (x : PySem.Str) : share (.str x) = .str x := by simp [share]
@[simp] theorem sh_lst (f : Fl) (xs : List D) : share (.lst f xs) = .lst f.sh (shares xs) := by simp [share]
@[simp] theorem sh_tup (xs : List D) : share (.tup xs) = .tup (shares xs) := by simp [share]
@[simp] theorem sh_obj (f : Fl) (c : PySem.Str) (ns : List PySem.Str) (xs : List D) : share (.obj f c ns xs) = .obj f.sh c ns (shares xs) := by simp [share]
@[simp] theorem shs_nil : shares [] = [] := by simp [shares]
@[simp] theorem shs_cons (d : D) (ds : List D) : shares (d :: ds) = share d :: shares ds := by simp [shares]
@[simp] theorem shs_app (a b : List D) : shares (a ++ b) = shares a ++ shares b := by simp [shares_eq]
@[simp] theorem flsh_own : Fl.own.sh = .shr := Eq.trans rfl rfl
@[simp] theorem flsh_shr : Fl.shr.sh = .shr := Eq.trans rfl rfl
@[simp] theorem flsh_frz : Fl.frz.sh = .frz := Eq.trans rfl rfl
@[simp] theorem flsh_sh (f : Fl) : f.sh.sh = f.sh := Fl.sh_sh f
@[simp] theorem shs_shs (ds : List D) : shares (shares ds) = shares ds := shares_shares ds
@[simp] theorem sh_sh (d : D) : share (share d) = share d := share_share d
@[simp] theorem c_lt (a b : Int) : cmpD .lt (.int a) (.int b) = some (decide (a < b)) := Eq.trans rfl rfl
@[simp] theorem c_le (a b : Int) : cmpD .le (.int a) (.int b) = some (decide (a ≤ b)) := Eq.trans rfl rfl
theorem c_leT (xs ys : List Int) : cmpD .le (.tup (xs.map D.int)) (.tup (ys.map D.int)) = some (leTI xs ys) := by
  have h : ∀ zs : List Int, intsD (zs.map D.int) = some zs := fun zs => by
    induction zs with
    | nil => rfl
    | cons z zs ih => simp [intsD, ih]
  simp only [cmpD, h, Option.bind_some, Option.map_some]
theorem leTI_two (a b c d : Int) : leTI [a, b] [c, d] = if a = c then decide (b ≤ d) else decide (a ≤ c) := by
  by_cases h : a = c
  · by_cases h' : b = d
    · simp [leTI, Ob.lexAt, h, h']
    · simp [leTI, Ob.lexAt, h, h']
  · simp [leTI, Ob.lexAt, h]
@[simp] theorem c_leT2 (a b c d : Int) : cmpD .le (.tup [.int a, .int b]) (.tup [.int c, .int d]) = some (if a = c then decide (b ≤ d) else decide (a ≤ c)) := by
  rw [← leTI_two]
  exact c_leT [a, b] [c, d]
@[simp] theorem c_gt (a b : Int) : cmpD .gt (.int a) (.int b) = some (decide (b < a)) := Eq.trans rfl rfl
@[simp] theorem c_ge (a b : Int) : cmpD .ge (.int a) (.int b) = some (decide (b ≤ a)) := Eq.trans rfl rfl
@[simp] theorem c_eqI (a b : D) : cmpD .eq a b = eqD a b := by simp only [cmpD]
@[simp] theorem c_neI (a b : D) : cmpD .ne a b = (eqD a b).map (!·) := by simp only [cmpD]
@[simp] theorem i_non (n : String) : isiD .non (.bi n) = some (decide (n = "NoneType")) := Eq.trans rfl rfl
@[simp] theorem i_bl (b : Bool) (n : String) : isiD (.bl b) (.bi n) = some (decide (n = "bool" ∨ n = "int")) := Eq.trans rfl rfl
@[simp] theorem i_int (i : Int) (n : String) : isiD (.int i) (.bi n) = some (decide (n = "int")) := Eq.trans rfl rfl
@[simp] theorem i_str (x : PySem.Str) (n : String) : isiD (.str x) (.bi n) = some (decide (n = "str")) := Eq.trans rfl rfl
@[simp] theorem i_tup (xs : List D) (n : String) : isiD (.tup xs) (.bi n) = some (decide (n = "tuple")) := Eq.trans rfl rfl
@[simp] theorem i_lst (f : Fl) (xs : List D) (n : String) : isiD (.lst f xs) (.bi n) = some (decide (n = "list")) := Eq.trans rfl rfl
@[simp] theorem bl_len (ds : List D) : bltD .len ds = d1 lenD ds := Eq.trans rfl rfl
@[simp] theorem bl_int (ds : List D) : bltD .int ds = d1 FL.intD ds := Eq.trans rfl rfl
@[simp] theorem bl_list (ds : List D) : bltD .list ds = d1 listD ds := Eq.trans rfl rfl
@[simp] theorem bl_tuple (ds : List D) : bltD .tuple ds = d1 tupleD ds := Eq.trans rfl rfl
@[simp] theorem bl_max1 (ds : List D) : bltD .max1 ds = d1 max1D ds := Eq.trans rfl rfl
@[simp] theorem bl_min1 (ds : List D) : bltD .min1 ds = d1 min1D ds := Eq.trans rfl rfl
@[simp] theorem max1D_l (f : Fl) (xs : List D) : max1D (.lst f xs) = (intsD xs).bind fun ns => if ns = [] then none else some (.int (maxI ns)) := Eq.trans rfl rfl
@[simp] theorem min1D_l (f : Fl) (xs : List D) : min1D (.lst f xs) = (intsD xs).bind fun ns => if ns = [] then none else some (.int (minI ns)) := Eq.trans rfl rfl
@[simp] theorem bl_sum (ds : List D) : bltD .sum ds = d1 sumD ds := Eq.trans rfl rfl
@[simp] theorem bl_abs (ds : List D) : bltD .abs ds = d1 absD ds := Eq.trans rfl rfl
@[simp] theorem bl_min (ds : List D) : bltD .min2 ds = d2 min2D ds := Eq.trans rfl rfl
@[simp] theorem bl_max (ds : List D) : bltD .max2 ds = d2 max2D ds := Eq.trans rfl rfl
@[simp] theorem bl_all (ds : List D) : bltD .all ds = d1 allD ds := Eq.trans rfl rfl
@[simp] theorem bl_any (ds : List D) : bltD .any ds = d1 anyD ds := Eq.trans rfl rfl
@[simp] theorem d1_mk (f : D → Option D) (x : D) : d1 f [x] = f x := Eq.trans rfl rfl
@[simp] theorem d2_mk (f : D → D → Option D) (x y : D) : d2 f [x, y] = f x y := Eq.trans rfl rfl
@[simp] theorem lenD_l (f : Fl) (xs : List D) : lenD (.lst f xs) = some (.int xs.length) := Eq.trans rfl rfl
@[simp] theorem lenD_t (xs : List D) : lenD (.tup xs) = some (.int xs.length) := Eq.trans rfl rfl
@[simp] theorem intD_i (i : Int) : FL.intD (.int i) = some (.int i) := Eq.trans rfl rfl
@[simp] theorem intD_b (b : Bool) : FL.intD (.bl b) = some (.int (if b then 1 else 0)) := Eq.trans rfl rfl
@[simp] theorem listD_l (f : Fl) (xs : List D) : listD (.lst f xs) = some (.lst .own (shares xs)) := Eq.trans rfl rfl
@[simp] theorem listD_t (xs : List D) : listD (.tup xs) = some (.lst .own (shares xs)) := Eq.trans rfl rfl
@[simp] theorem tupleD_l (f : Fl) (xs : List D) : tupleD (.lst f xs) = some (.tup (shares xs)) := Eq.trans rfl rfl
@[simp] theorem tupleD_t (xs : List D) : tupleD (.tup xs) = some (.tup (shares xs)) := Eq.trans rfl rfl
@[simp] theorem sumD_l (f : Fl) (xs : List D) : sumD (.lst f xs) = (intsD xs).map fun ns => .int ns.sum := Eq.trans rfl rfl
@[simp] theorem allD_l (f : Fl) (xs : List D) : allD (.lst f xs) = (boolsD xs).map fun bs => .bl (bs.all id) := Eq.trans rfl rfl
@[simp] theorem anyD_l (f : Fl) (xs : List D) : anyD (.lst f xs) = (boolsD xs).map fun bs => .bl (bs.any id) := Eq.trans rfl rfl
@[simp] theorem min2D_i (i j : Int) : min2D (.int i) (.int j) = some (.int (if j < i then j else i)) := Eq.trans rfl rfl
@[simp] theorem max2D_i (i j : Int) : max2D (.int i) (.int j) = some (.int (if j > i then j else i)) := Eq.trans rfl rfl
@[simp] theorem idx_l (f : Fl) (xs : List D) (i : Int) : idxD (.lst f xs) (.int i) = (L2.atI xs i).map share := Eq.trans rfl rfl
@[simp] theorem idx_t (xs : List D) (i : Int) : idxD (.tup xs) (.int i) = (L2.atI xs i).map share := Eq.trans rfl rfl
@[simp] theorem len_shares (ds : List D) : (shares ds).length = ds.length := shares_len ds
@[simp] theorem c_isN_non : cmpD .isN .non .non = some true := Eq.trans rfl rfl
@[simp] theorem c_notN_non : cmpD .notN .non .non = some false := Eq.trans rfl rfl
@[simp] theorem c_isN_lst (f : Fl) (xs : List D) : cmpD .isN (.lst f xs) .non = some false := Eq.trans rfl rfl
@[simp] theorem c_notN_lst (f : Fl) (xs : List D) : cmpD .notN (.lst f xs) .non = some true := Eq.trans rfl rfl
@[simp] theorem c_isN_tup (xs : List D) : cmpD .isN (.tup xs) .non = some false := Eq.trans rfl rfl
@[simp] theorem c_notN_tup (xs : List D) : cmpD .notN (.tup xs) .non = some true := Eq.trans rfl rfl
@[simp] theorem c_isN_int (i : Int) : cmpD .isN (.int i) .non = some false := Eq.trans rfl rfl
@[simp] theorem c_notN_int (i : Int) : cmpD .notN (.int i) .non = some true := Eq.trans rfl rfl
/-! ### data -/
def eI (xs : List Int) : List D := xs.map D.int
def eRow (f : Fl) (xs : List Int) : D := .lst f (eI xs)
def eTup (xs : List Int) : D := .tup (eI xs)
def eRows (f : Fl) (rs : List (List Int)) : D := .lst f (rs.map (eRow f))
theorem shares_ints (xs : List Int) : shares (eI xs) = eI xs := by rw [shares_eq]; unfold eI; induction xs with
  | nil => rfl
  | cons x xs ih => simp [share]
theorem share_row (f : Fl) (xs : List Int) : share (eRow f xs) = eRow f.sh xs := by unfold eRow; rw [share]; rw [shares_ints]
theorem share_eTup (xs : List Int) : share (eTup xs) = eTup xs := by unfold eTup; rw [share, shares_ints]
theorem share_rows (f : Fl) (rs : List (List Int)) : share (eRows f rs) = eRows f.sh rs := by
  unfold eRows
  rw [share, shares_eq, List.map_map]
  congr 1
  apply List.map_congr_left
  intro r _
  exact share_row f r
theorem eI_len (xs : List Int) : (eI xs).length = xs.length := by simp [eI]
theorem eI_get (xs : List Int) (i : Nat) : (eI xs)[i]? = (xs[i]?).map D.int := by simp [eI]
/-! ### == -/
theorem shaped_int (i : Int) : SeqAt.shaped (.int i) = true := by simp [SeqAt.shaped, PyData.canLay0, PyData.depth]
theorem eqD_int (a b : Int) : eqD (.int a) (.int b) = some (a == b) := by
  simp [eqD, toP, PyData.eqv, SeqAt.shaped, PyData.canLay0, PyData.depth]
/-! ### loops -/
theorem forL_inv {bind : D → Env → Option Env} {body : Env → Option Flow} (P : List D → Env → Prop) (step : ∀ d ds ρ, P (d :: ds) ρ → ∃ ρ1 ρ2, bind d ρ = some ρ1 ∧ (body ρ1 = some (.nx ρ2) ∨ body ρ1 = some (.ct ρ2)) ∧ P ds ρ2) :
    ∀ {ds : List D} {ρ : Env}, P ds ρ → ∃ ρ', forL bind body ds ρ = some (.nx ρ') ∧ P [] ρ'
  | [], ρ, h => ⟨ρ, rfl, h⟩
  | d :: ds, ρ, h => by
    obtain ⟨ρ1, ρ2, e1, e2, h2⟩ := step d ds ρ h
    obtain ⟨ρ', e3, h3⟩ := forL_inv P step h2
    refine ⟨ρ', ?_, h3⟩
    unfold forL
    rw [e1]
    rcases e2 with e2 | e2 <;> (simp only [Option.bind_some, e2]; exact e3)
theorem compL_inv {bind : D → Env → Option Env} {cond : Env → Option (Bool × Env)} {elt : Env → Option (D × Env)} {vs : List Nat} (P : List D → List D → Env → Prop)
    (step : ∀ d ds acc ρ, P (d :: ds) acc ρ → ∃ ρ1 ρ2 y ρ3, bind d ρ = some ρ1 ∧ cond ρ1 = some (true, ρ2) ∧ elt ρ2 = some (y, ρ3) ∧ acc.length < SZ ∧ P ds (acc ++ [y]) (wipeD ρ3 vs)) :
    ∀ {ds acc : List D} {ρ : Env}, P ds acc ρ → ∃ res ρ', compL bind cond elt vs ds ρ acc = some (res, ρ') ∧ P [] res ρ'
  | [], acc, ρ, h => ⟨acc, ρ, rfl, h⟩
  | d :: ds, acc, ρ, h => by
    obtain ⟨ρ1, ρ2, y, ρ3, e1, e2, e3, hz, h2⟩ := step d ds acc ρ h
    obtain ⟨res, ρ', e4, h4⟩ := compL_inv P step h2
    refine ⟨res, ρ', ?_, h4⟩
    unfold compL
    rw [e1]
    simp only [Option.bind_some, e2, e3, if_pos hz]
    exact e4
/-- a comprehension that leaves the environment: a map -/
theorem compL_map {bind : D → Env → Option Env} {cond : Env → Option (Bool × Env)} {elt : Env → Option (D × Env)} {vs : List Nat} {ρ : Env} (F : D → D) : ∀ {ds acc : List D}, (∀ d ∈ ds, ∃ ρ1 ρ2 ρ3, bind d ρ = some ρ1 ∧ cond ρ1 = some (true, ρ2) ∧ elt ρ2 = some (F d, ρ3) ∧ wipeD ρ3 vs = ρ) → acc.length + ds.length ≤ SZ →
    compL bind cond elt vs ds ρ acc = some (acc ++ ds.map F, ρ)
  | [], acc, _, _ => by simp [compL]
  | d :: ds, acc, h, hz => by
    obtain ⟨ρ1, ρ2, ρ3, e1, e2, e3, e4⟩ := h d (by simp)
    unfold compL
    rw [e1]
    have hz' : acc.length < SZ := by simp only [List.length_cons] at hz; omega
    simp only [Option.bind_some, e2, e3, if_pos hz', e4]
    rw [compL_map F (fun d hd => h d (List.mem_cons_of_mem _ hd)) (by simp only [List.length_append, List.length_cons, List.length_nil] at hz ⊢; omega)]
    simp
/-- a loop whose turns change the target's slot alone -/
theorem forL_chk {i : Nat} {body : Env → Option Flow} {ρ : Env} (hi : i < ρ.length) : ∀ {items : List D} {x0 : Option D}, (∀ d ∈ items, ∃ x, body (ρ.set i (some d)) = some (.nx (ρ.set i x))) → ∃ x, forL (bindT (.name i)) body items (ρ.set i x0) = some (.nx (ρ.set i x))
  | [], x0, _ => ⟨x0, rfl⟩
  | d :: ds, x0, h => by
    obtain ⟨x, e⟩ := h d (by simp)
    obtain ⟨y, e2⟩ := forL_chk hi (items := ds) (x0 := x) fun d hd => h d (List.mem_cons_of_mem _ hd)
    refine ⟨y, ?_⟩
    have e0 : bindT (.name i) d (ρ.set i x0) = some (ρ.set i (some d)) := by
      show putS _ i d = _
      unfold putS
      rw [if_pos (by rw [List.length_set]; exact hi), List.set_set]
    unfold forL
    rw [e0]
    simp only [Option.bind_some, e]
    exact e2
theorem forL_chk2 {i j : Nat} {body : Env → Option Flow} {ρ : Env} (hi : i < ρ.length) (hj : j < ρ.length) (hij : i ≠ j) : ∀ {items : List D} {x0 y0 : Option D}, (∀ d ∈ items, ∃ a b, d = .tup [a, b] ∧ ∃ x y, body ((ρ.set i (some a)).set j (some b)) = some (.nx ((ρ.set i x).set j y))) →
    ∃ x y, forL (bindT (.names [i, j])) body items ((ρ.set i x0).set j y0) = some (.nx ((ρ.set i x).set j y))
  | [], x0, y0, _ => ⟨x0, y0, rfl⟩
  | d :: ds, x0, y0, h => by
    obtain ⟨a, b, rfl, x, y, e⟩ := h d (by simp)
    obtain ⟨x', y', e2⟩ := forL_chk2 hi hj hij (items := ds) (x0 := x) (y0 := y) fun d hd => h d (List.mem_cons_of_mem _ hd)
    refine ⟨x', y', ?_⟩
    have e0 : bindT (.names [i, j]) (.tup [a, b]) ((ρ.set i x0).set j y0) = some ((ρ.set i (some a)).set j (some b)) := by
      simp only [bindT, List.length_cons, List.length_nil, if_pos, putAll, putS, List.length_set, if_pos hi, if_pos hj, Option.bind_some]
      rw [List.set_comm _ _ hij.symm, List.set_set, List.set_set]
    unfold forL
    rw [e0]
    simp only [Option.bind_some, e]
    exact e2
theorem mem_eI {d : D} {xs : List Int} (h : d ∈ eI xs) : ∃ z ∈ xs, d = .int z := by
  obtain ⟨z, hz, rfl⟩ := List.mem_map.mp h
  exact ⟨z, hz, rfl⟩
theorem atI_nat {α : Type} (xs : List α) (i : Nat) : L2.atI xs (i : Int) = xs[i]? := by
  unfold L2.atI L2.ixN
  rw [if_pos (by omega)]
  by_cases h : i < xs.length
  · rw [if_pos (by omega)]; simp
  · rw [if_neg (by omega)]; simp; omega
@[simp] theorem atI_0 {α : Type} (x : α) (xs : List α) : L2.atI (x :: xs) 0 = some x := atI_nat (x :: xs) 0
@[simp] theorem atI_1 {α : Type} (x y : α) (xs : List α) : L2.atI (x :: y :: xs) 1 = some y := atI_nat (x :: y :: xs) 1
@[simp] theorem atI_2 {α : Type} (x y z : α) (xs : List α) : L2.atI (x :: y :: z :: xs) 2 = some z := atI_nat (x :: y :: z :: xs) 2
@[simp] theorem atI_3 {α : Type} (x y z w : α) (xs : List α) : L2.atI (x :: y :: z :: w :: xs) 3 = some w := atI_nat (x :: y :: z :: w :: xs) 3
theorem forL_inv' {bind : D → Env → Option Env} {body : Env → Option Flow} (P : List D → Env → Prop) (step : ∀ d ds ρ, P (d :: ds) ρ → ∃ ρ2, ((bind d ρ).bind body = some (.nx ρ2) ∨ (bind d ρ).bind body = some (.ct ρ2)) ∧ P ds ρ2) :
    ∀ {ds : List D} {ρ : Env}, P ds ρ → ∃ ρ', forL bind body ds ρ = some (.nx ρ') ∧ P [] ρ' := fun {ds ρ} h => forL_inv P (fun d ds ρ h => by
  obtain ⟨ρ2, e, h2⟩ := step d ds ρ h
  rcases e with e | e
  · obtain ⟨ρ1, e1, e2⟩ := bnd e
    exact ⟨ρ1, ρ2, e1, .inl e2, h2⟩
  · obtain ⟨ρ1, e1, e2⟩ := bnd e
    exact ⟨ρ1, ρ2, e1, .inr e2, h2⟩) h
/-- a comprehension over coded items, the environment kept: a map -/
theorem compL_mapT {α : Type} {bind : D → Env → Option Env} {cond : Env → Option (Bool × Env)} {elt : Env → Option (D × Env)} {vs : List Nat} {ρ : Env} (enc res : α → D) : ∀ (l : List α) {acc : List D},
    (∀ a ∈ l, ∃ ρ3, ((bind (enc a) ρ).bind fun ρ1 => (cond ρ1).bind fun p => if p.1 = true then elt p.2 else none) = some (res a, ρ3) ∧ wipeD ρ3 vs = ρ) → acc.length + l.length ≤ SZ → compL bind cond elt vs (l.map enc) ρ acc = some (acc ++ l.map res, ρ)
  | [], acc, _, _ => by simp [compL]
  | a :: l, acc, h, hz => by
    obtain ⟨ρ3, e, e4⟩ := h a (by simp)
    obtain ⟨ρ1, e1, e⟩ := bnd e
    obtain ⟨⟨b, ρ2⟩, e2, e⟩ := bnd e
    cases b with
    | false => simp at e
    | true =>
      rw [if_pos rfl] at e
      simp only [List.map_cons]
      unfold compL
      rw [e1]
      have hz' : acc.length < SZ := by simp only [List.length_cons] at hz; omega
      simp only [Option.bind_some, e2, if_pos hz']
      rw [show elt ρ2 = some (res a, ρ3) from e]
      simp only [Option.bind_some, if_pos hz', e4]
      rw [compL_mapT enc res l (fun b hb => h b (List.mem_cons_of_mem _ hb)) (by simp only [List.length_append, List.length_cons, List.length_nil] at hz ⊢; omega)]
      simp
theorem zipL_map {α β : Type} (e : α → D) (g : β → D) : ∀ (xs : List α) (ys : List β), zipL (xs.map e) (ys.map g) = (xs.zip ys).map fun p => .tup [e p.1, g p.2]
  | [], _ => by simp [zipL]
  | _ :: _, [] => by simp [zipL]
  | x :: xs, y :: ys => by simp [zipL, zipL_map e g xs ys]
theorem intsD_map (xs : List Int) : intsD (xs.map D.int) = some xs := by
  induction xs with
  | nil => rfl
  | cons x xs ih => simp [intsD, ih]
theorem boolsD_map (xs : List Bool) : boolsD (xs.map D.bl) = some xs := by
  induction xs with
  | nil => rfl
  | cons x xs ih => simp [boolsD, ih]
@[simp] theorem b_mul (a b : Int) : binD .mul (.int a) (.int b) = if mulOk a b = true then some (.int (a * b)) else none := by simp only [binD]; exact ite_cl
@[simp] theorem SZ_val : SZ = 16777216 := Eq.trans rfl rfl
@[simp] theorem shs_eI (xs : List Int) : shares (eI xs) = eI xs := shares_ints xs
@[simp] theorem len_eI (xs : List Int) : (eI xs).length = xs.length := eI_len xs
end FL

namespace FL
/-- a comprehension over coded items, the environment under a rule: a map -/
theorem compL_mapP {α : Type} {bind : D → Env → Option Env} {cond : Env → Option (Bool × Env)} {elt : Env → Option (D × Env)} {vs : List Nat} (P : Env → Prop) (enc res : α → D) : ∀ (l : List α) {acc : List D} {ρ : Env},
    (∀ a ∈ l, ∀ ρ, P ρ → ∃ ρ3, ((bind (enc a) ρ).bind fun ρ1 => (cond ρ1).bind fun p => if p.1 = true then elt p.2 else none) = some (res a, ρ3) ∧ P (wipeD ρ3 vs)) → P ρ → acc.length + l.length ≤ SZ → ∃ ρ', compL bind cond elt vs (l.map enc) ρ acc = some (acc ++ l.map res, ρ') ∧ P ρ'
  | [], acc, ρ, _, hp, _ => ⟨ρ, by simp [compL], hp⟩
  | a :: l, acc, ρ, h, hp, hz => by
    obtain ⟨ρ3, e, e4⟩ := h a (by simp) ρ hp
    obtain ⟨ρ1, e1, e⟩ := bnd e
    obtain ⟨⟨b, ρ2⟩, e2, e⟩ := bnd e
    cases b with
    | false => simp at e
    | true =>
      rw [if_pos rfl] at e
      simp only [List.map_cons]
      unfold compL
      rw [e1]
      have hz' : acc.length < SZ := by simp only [List.length_cons] at hz; omega
      simp only [Option.bind_some, e2, if_pos hz']
      rw [show elt ρ2 = some (res a, ρ3) from e]
      simp only [Option.bind_some, if_pos hz']
      obtain ⟨ρ', e5, p5⟩ := compL_mapP P enc res l (acc := acc ++ [res a]) (fun b hb => h b (List.mem_cons_of_mem _ hb)) e4 (by simp only [List.length_append, List.length_cons, List.length_nil] at hz ⊢; omega)
      exact ⟨ρ', by rw [e5]; simp, p5⟩
/-- place by place -/
def Pw {α β : Type} (R : α → β → Prop) (l : List α) (zs : List β) : Prop := zs.length = l.length ∧ ∀ (j : Nat) (a : α) (z : β), l[j]? = some a → zs[j]? = some z → R a z
theorem Pw.cons {α β : Type} {R : α → β → Prop} {a : α} {z : β} {l : List α} {zs : List β} (h1 : R a z) (h : Pw R l zs) : Pw R (a :: l) (z :: zs) := by
  refine ⟨by simp [h.1], fun j x y hx hy => ?_⟩
  cases j with
  | zero => simp at hx hy; rw [← hx, ← hy]; exact h1
  | succ j => simp at hx hy; exact h.2 j x y hx hy
theorem Pw.all {α β : Type} {R : α → β → Prop} {l : List α} {zs : List β} {Q : β → Prop} (h : Pw R l zs) (hq : ∀ a z, R a z → Q z) : ∀ z ∈ zs, Q z := by
  intro z hz
  obtain ⟨j, hj⟩ := List.getElem?_of_mem hz
  have hl : j < l.length := by rw [← h.1]; exact (List.getElem?_eq_some_iff.mp hj).1
  exact hq _ z (h.2 j _ z (List.getElem?_eq_getElem hl) hj)
/-- .. with results not known ahead -/
theorem compL_ex {α β : Type} {bind : D → Env → Option Env} {cond : Env → Option (Bool × Env)} {elt : Env → Option (D × Env)} {vs : List Nat} (P : Env → Prop) (R : α → β → Prop) (enc : α → D) (res : β → D) : ∀ (l : List α) {acc : List D} {ρ : Env},
    (∀ a ∈ l, ∀ ρ, P ρ → ∃ z ρ3, ((bind (enc a) ρ).bind fun ρ1 => (cond ρ1).bind fun p => if p.1 = true then elt p.2 else none) = some (res z, ρ3) ∧ R a z ∧ P (wipeD ρ3 vs)) → P ρ → acc.length + l.length ≤ SZ → ∃ zs ρ', compL bind cond elt vs (l.map enc) ρ acc = some (acc ++ zs.map res, ρ') ∧ Pw R l zs ∧ P ρ'
  | [], acc, ρ, _, hp, _ => ⟨[], ρ, by simp [compL], ⟨rfl, by simp⟩, hp⟩
  | a :: l, acc, ρ, h, hp, hz => by
    obtain ⟨z, ρ3, e, hr, e4⟩ := h a (by simp) ρ hp
    obtain ⟨ρ1, e1, e⟩ := bnd e
    obtain ⟨⟨b, ρ2⟩, e2, e⟩ := bnd e
    cases b with
    | false => simp at e
    | true =>
      rw [if_pos rfl] at e
      simp only [List.map_cons]
      unfold compL
      rw [e1]
      have hz' : acc.length < SZ := by simp only [List.length_cons] at hz; omega
      simp only [Option.bind_some, e2, if_pos hz']
      rw [show elt ρ2 = some (res z, ρ3) from e]
      simp only [Option.bind_some, if_pos hz']
      obtain ⟨zs, ρ', e5, r5, p5⟩ := compL_ex P R enc res l (acc := acc ++ [res z]) (fun b hb => h b (List.mem_cons_of_mem _ hb)) e4 (by simp only [List.length_append, List.length_cons, List.length_nil] at hz ⊢; omega)
      exact ⟨z :: zs, ρ', by rw [e5]; simp, Pw.cons hr r5, p5⟩
theorem rngO_nat (i : Int) (n : Nat) (h : i = n) (hn : n ≤ 1000000) : rngO (.int i) = some (rngL 0 n) := by
  subst h
  have h1 : -(2 ^ 62) ≤ (n : Int) := by omega
  have h2 : (n : Int) < 2 ^ 62 := by omega
  unfold rngO
  simp only
  rw [if_pos ⟨h1, h2⟩, Int.toNat_natCast]
theorem rngL_0 (n : Nat) : rngL 0 n = (List.range n).map fun (k : Nat) => D.int (k : Int) := by
  unfold rngL; congr 1; funext k; simp
@[simp] theorem b_mod (a b : Int) : binD .mod (.int a) (.int b) = if 0 < b then some (.int (a % b)) else none := by simp only [binD]; exact ite_cl
@[simp] theorem b_fdiv (a b : Int) : binD .fdiv (.int a) (.int b) = if 0 < b ∧ (b.natAbs.log2 < 9000 ∨ a.natAbs.log2 < 13530) then some (.int (a / b)) else if b < 0 ∧ (b.natAbs.log2 < 9000 ∨ a.natAbs.log2 < 13530) then some (.int (a.fdiv b)) else none := by simp only [binD]; rw [ite_cl, ite_cl]
@[simp] theorem b_pow (a b : Int) : binD .pow (.int a) (.int b) = if 0 ≤ b ∧ b ≤ 1000000 ∧ (a.natAbs < 2 ^ 64 ∨ (a.natAbs.log2 < 1000 ∧ b ≤ 1000)) then some (.int (a ^ b.toNat)) else none := by simp only [binD]; exact ite_cl
@[simp] theorem b_addL (f g : Fl) (xs ys : List D) : binD .add (.lst f xs) (.lst g ys) = if f ≠ .frz ∧ g ≠ .frz ∧ xs.length + ys.length ≤ SZ then some (.lst .own (shares xs ++ shares ys)) else none := Eq.trans rfl rfl
@[simp] theorem b_mulT (xs : List D) (k : Int) : binD .mul (.tup xs) (.int k) = if xs ≠ [] ∧ 0 ≤ k ∧ k ≤ 1000 ∧ xs.length ≤ 1000 then some (.tup (List.replicate k.toNat (shares xs)).flatten) else none := by simp only [binD]; exact ite_cl
@[simp] theorem b_addT (xs ys : List D) : binD .add (.tup xs) (.tup ys) = if xs.length + ys.length ≤ SZ then some (.tup (shares xs ++ shares ys)) else none := Eq.trans rfl rfl
theorem log2_small {b : Int} (h : b.natAbs < 2 ^ 64) : b.natAbs.log2 < 9000 := by
  by_cases h0 : b.natAbs = 0
  · rw [h0]; decide
  · have := (Nat.log2_lt h0).mpr h; omega
@[simp] theorem idv_l (f : Fl) (xs : List D) (i : Int) : idvD (.lst f xs) (.int i) = (L2.ixN xs.length i).bind fun j => (xs[j]?).map fun d => (share d, .lst f (xs.set j (share d))) := Eq.trans rfl rfl
@[simp] theorem setI_l (xs : List D) (k : Int) (d : D) : setID (.lst .own xs) (.int k) d = (L2.ixN xs.length k).map fun j => .lst .own (xs.set j d) := Eq.trans rfl rfl
theorem ixN_ok (n j : Nat) (h : j < n) : L2.ixN n (j : Int) = some j := by
  unfold L2.ixN; rw [if_pos (by omega), if_pos (by omega)]; simp
@[simp] theorem ixN40 : L2.ixN 4 0 = some 0 := Eq.trans rfl rfl
@[simp] theorem ixN41 : L2.ixN 4 1 = some 1 := Eq.trans rfl rfl
@[simp] theorem ixN42 : L2.ixN 4 2 = some 2 := Eq.trans rfl rfl
@[simp] theorem ixN43 : L2.ixN 4 3 = some 3 := Eq.trans rfl rfl
@[simp] theorem isLst_l (f : Fl) (xs : List D) : isLst (.lst f xs) = true := Eq.trans rfl rfl
@[simp] theorem app_l (xs : List D) (d : D) : appD (.lst .own xs) d = if xs.length < SZ then some (.lst .own (xs ++ [d])) else none := Eq.trans rfl rfl
/-- a loop over coded items, the environment as a picture of a state -/
theorem forL_st {α σ : Type} {bind : D → Env → Option Env} {body : Env → Option Flow} (enc : α → D) (env : σ → Env) (I : List α → σ → Prop)
    (step : ∀ a l s, I (a :: l) s → ∃ s', ((bind (enc a) (env s)).bind body = some (.nx (env s')) ∨ (bind (enc a) (env s)).bind body = some (.ct (env s'))) ∧ I l s') :
    ∀ (l : List α) (s : σ), I l s → ∃ s', forL bind body (l.map enc) (env s) = some (.nx (env s')) ∧ I [] s' := fun l s h => by
  obtain ⟨ρ', e, ⟨l', s', h1, h2, h3⟩⟩ := forL_inv' (bind := bind) (body := body) (fun ds ρ => ∃ l s, ds = l.map enc ∧ ρ = env s ∧ I l s) (by
    rintro d ds ρ ⟨l, s, h1, rfl, h3⟩
    cases l with
    | nil => cases h1
    | cons a l =>
      simp only [List.map_cons, List.cons.injEq] at h1
      obtain ⟨rfl, rfl⟩ := h1
      obtain ⟨s', e, h4⟩ := step a l s h3
      exact ⟨env s', e, l, s', rfl, rfl, h4⟩) ⟨l, s, rfl, rfl, h⟩
  cases l' with
  | cons a l' => cases h1
  | nil => exact ⟨s', by rw [e, h2], h3⟩
theorem eI_set (xs : List Int) (j : Nat) (v : Int) : (eI xs).set j (.int v) = eI (xs.set j v) := by
  unfold eI; rw [List.map_set]
end FL

/-! F22: == over coded data. -/
namespace FL
open PySem
/-- a coding without objects, at most n deep -/
def GoodE {α : Type} (ea : α → D) (n : Nat) : Prop := ∀ a, ∃ p, toP (ea a) = some p ∧ p.canLay0 = true ∧ p.depth ≤ n
/-- how two codings compare -/
structure EqE {α β : Type} (ea : α → D) (eb : β → D) (n : Nat) (r : α → β → Bool) : Prop where
  ga : GoodE ea n
  gb : GoodE eb n
  eq : ∀ a b p q, toP (ea a) = some p → toP (eb b) = some q → PyData.eqv p q = r a b
theorem EqE.eqD {α β : Type} {ea : α → D} {eb : β → D} {n : Nat} {r : α → β → Bool} (h : EqE ea eb n r) (hn : n ≤ 64) (a : α) (b : β) : eqD (ea a) (eb b) = some (r a b) := by
  obtain ⟨p, e1, l1, d1⟩ := h.ga a
  obtain ⟨q, e2, l2, d2⟩ := h.gb b
  unfold FL.eqD
  rw [e1, e2]
  have s1 : SeqAt.shaped p = true := by unfold SeqAt.shaped; rw [l1]; simp; omega
  have s2 : SeqAt.shaped q = true := by unfold SeqAt.shaped; rw [l2]; simp; omega
  simp [s1, s2, h.eq a b p q e1 e2]
theorem GoodE.mono {α : Type} {ea : α → D} {n m : Nat} (h : GoodE ea n) (hn : n ≤ m) : GoodE ea m := fun a => by
  obtain ⟨p, e1, l1, d1⟩ := h a
  exact ⟨p, e1, l1, by omega⟩
theorem EqE.mono {α β : Type} {ea : α → D} {eb : β → D} {n m : Nat} {r : α → β → Bool} (h : EqE ea eb n r) (hn : n ≤ m) : EqE ea eb m r := ⟨h.ga.mono hn, h.gb.mono hn, h.eq⟩
theorem goodE_int : GoodE D.int 0 := fun a => ⟨.int a, rfl, rfl, by simp [PyData.depth]⟩
theorem goodE_bl : GoodE D.bl 0 := fun a => ⟨.bool a, rfl, rfl, by simp [PyData.depth]⟩
theorem eqE_int : EqE D.int D.int 0 (fun a b => decide (a = b)) := ⟨goodE_int, goodE_int, fun a b p q e1 e2 => by cases e1; cases e2; simp only [PyData.eqv]; rfl⟩
theorem eqE_bl : EqE D.bl D.bl 0 (fun a b => decide (a = b)) := ⟨goodE_bl, goodE_bl, fun a b p q e1 e2 => by cases e1; cases e2; cases a <;> cases b <;> rfl⟩
/-- item by item -/
def allE {α β : Type} (r : α → β → Bool) : List α → List β → Bool
  | [], [] => true
  | a :: as, b :: bs => r a b && allE r as bs
  | _, _ => false
theorem allE_eq {α : Type} [DecidableEq α] : ∀ (xs ys : List α), allE (fun a b => decide (a = b)) xs ys = decide (xs = ys)
  | [], [] => by simp [allE]
  | [], _ :: _ => by simp [allE]
  | _ :: _, [] => by simp [allE]
  | x :: xs, y :: ys => by simp [allE, allE_eq xs ys]
theorem goods {α : Type} {ea : α → D} {n : Nat} (h : GoodE ea n) : ∀ xs : List α, ∃ ps, toP.toPs (xs.map ea) = some ps ∧ PyData.canLayAll0 ps = true ∧ PyData.depthAll ps ≤ n
  | [] => ⟨[], rfl, rfl, by simp [PyData.depthAll]⟩
  | x :: xs => by
    obtain ⟨p, e1, l1, d1⟩ := h x
    obtain ⟨ps, e2, l2, d2⟩ := goods h xs
    exact ⟨p :: ps, by simp [toP.toPs, e1, e2], by simp [PyData.canLayAll0, l1, l2], by simp only [PyData.depthAll]; omega⟩
theorem eqs {α β : Type} {ea : α → D} {eb : β → D} {n : Nat} {r : α → β → Bool} (h : EqE ea eb n r) : ∀ (xs : List α) (ys : List β) (ps qs : List PyData), toP.toPs (xs.map ea) = some ps → toP.toPs (ys.map eb) = some qs → PyData.eqvAll ps qs = allE r xs ys
  | [], [], ps, qs, e1, e2 => by cases e1; cases e2; simp [PyData.eqvAll, allE]
  | [], y :: ys, ps, qs, e1, e2 => by
    cases e1
    simp only [List.map_cons, toP.toPs] at e2
    obtain ⟨q, _, e2⟩ := Option.bind_eq_some_iff.mp e2
    obtain ⟨qs', _, rfl⟩ := Option.map_eq_some_iff.mp e2
    simp [PyData.eqvAll, allE]
  | x :: xs, [], ps, qs, e1, e2 => by
    cases e2
    simp only [List.map_cons, toP.toPs] at e1
    obtain ⟨q, _, e1⟩ := Option.bind_eq_some_iff.mp e1
    obtain ⟨qs', _, rfl⟩ := Option.map_eq_some_iff.mp e1
    simp [PyData.eqvAll, allE]
  | x :: xs, y :: ys, ps, qs, e1, e2 => by
    simp only [List.map_cons, toP.toPs] at e1 e2
    obtain ⟨p, h1, e1⟩ := Option.bind_eq_some_iff.mp e1
    obtain ⟨ps', h2, rfl⟩ := Option.map_eq_some_iff.mp e1
    obtain ⟨q, g1, e2⟩ := Option.bind_eq_some_iff.mp e2
    obtain ⟨qs', g2, rfl⟩ := Option.map_eq_some_iff.mp e2
    simp only [PyData.eqvAll, allE, h.eq x y p q h1 g1, eqs h xs ys ps' qs' h2 g2]
theorem goodE_lst {α : Type} {ea : α → D} {n : Nat} (f : Fl) (h : GoodE ea n) : GoodE (fun xs : List α => D.lst f (xs.map ea)) (n + 1) := fun xs => by
  obtain ⟨ps, e, l, d⟩ := goods h xs
  exact ⟨.list ps, by simp [toP, e], by simp [PyData.canLay0, l], by simp only [PyData.depth]; omega⟩
theorem goodE_tup {α : Type} {ea : α → D} {n : Nat} (h : GoodE ea n) : GoodE (fun xs : List α => D.tup (xs.map ea)) (n + 1) := fun xs => by
  obtain ⟨ps, e, l, d⟩ := goods h xs
  exact ⟨.tuple ps, by simp [toP, e], by simp [PyData.canLay0, l], by simp only [PyData.depth]; omega⟩
theorem eqE_lst {α β : Type} {ea : α → D} {eb : β → D} {n : Nat} {r : α → β → Bool} (f g : Fl) (h : EqE ea eb n r) : EqE (fun xs : List α => D.lst f (xs.map ea)) (fun xs : List β => D.lst g (xs.map eb)) (n + 1) (allE r) := by
  refine ⟨goodE_lst f h.ga, goodE_lst g h.gb, fun xs ys p q e1 e2 => ?_⟩
  simp only [toP] at e1 e2
  obtain ⟨ps, h1, rfl⟩ := Option.map_eq_some_iff.mp e1
  obtain ⟨qs, h2, rfl⟩ := Option.map_eq_some_iff.mp e2
  simp only [PyData.eqv, eqs h xs ys ps qs h1 h2]
theorem eqE_tup {α β : Type} {ea : α → D} {eb : β → D} {n : Nat} {r : α → β → Bool} (h : EqE ea eb n r) : EqE (fun xs : List α => D.tup (xs.map ea)) (fun xs : List β => D.tup (xs.map eb)) (n + 1) (allE r) := by
  refine ⟨goodE_tup h.ga, goodE_tup h.gb, fun xs ys p q e1 e2 => ?_⟩
  simp only [toP] at e1 e2
  obtain ⟨ps, h1, rfl⟩ := Option.map_eq_some_iff.mp e1
  obtain ⟨qs, h2, rfl⟩ := Option.map_eq_some_iff.mp e2
  simp only [PyData.eqv, eqs h xs ys ps qs h1 h2]
theorem eqE_pair {α β α' β' : Type} {ea : α → D} {eb : β → D} {ea' : α' → D} {eb' : β' → D} {n : Nat} {r : α → β → Bool} {r' : α' → β' → Bool} (h : EqE ea eb n r) (h' : EqE ea' eb' n r') :
    EqE (fun p : α × α' => D.tup [ea p.1, ea' p.2]) (fun p : β × β' => D.tup [eb p.1, eb' p.2]) (n + 1) (fun p q => r p.1 q.1 && r' p.2 q.2) := by
  refine ⟨fun p => ?_, fun p => ?_, fun x y p q e1 e2 => ?_⟩
  · obtain ⟨p1, e1, l1, d1⟩ := h.ga p.1
    obtain ⟨p2, e2, l2, d2⟩ := h'.ga p.2
    exact ⟨.tuple [p1, p2], by simp [toP, toP.toPs, e1, e2], by simp [PyData.canLay0, PyData.canLayAll0, l1, l2], by simp only [PyData.depth, PyData.depthAll]; omega⟩
  · obtain ⟨p1, e1, l1, d1⟩ := h.gb p.1
    obtain ⟨p2, e2, l2, d2⟩ := h'.gb p.2
    exact ⟨.tuple [p1, p2], by simp [toP, toP.toPs, e1, e2], by simp [PyData.canLay0, PyData.canLayAll0, l1, l2], by simp only [PyData.depth, PyData.depthAll]; omega⟩
  · obtain ⟨p1, f1, _, _⟩ := h.ga x.1
    obtain ⟨p2, f2, _, _⟩ := h'.ga x.2
    obtain ⟨q1, g1, _, _⟩ := h.gb y.1
    obtain ⟨q2, g2, _, _⟩ := h'.gb y.2
    simp only [toP, toP.toPs, f1, f2, g1, g2, Option.bind_some, Option.map_some, Option.some.injEq] at e1 e2
    subst e1 e2
    simp only [PyData.eqv, PyData.eqvAll, h.eq _ _ _ _ f1 g1, h'.eq _ _ _ _ f2 g2, Bool.and_true]
theorem EqE.cg {α β : Type} {ea ea' : α → D} {eb eb' : β → D} {n : Nat} {r r' : α → β → Bool} (h : EqE ea eb n r) (h1 : ∀ a, ea' a = ea a) (h2 : ∀ a, eb' a = eb a) (h3 : ∀ a b, r' a b = r a b) : EqE ea' eb' n r' := by
  have e1 : ea' = ea := funext h1
  have e2 : eb' = eb := funext h2
  have e3 : r' = r := funext fun a => funext fun b => h3 a b
  rw [e1, e2, e3]; exact h
theorem eqE_ints (f g : Fl) : EqE (eRow f) (eRow g) 1 (fun a b => decide (a = b)) := (eqE_lst f g eqE_int).cg (fun _ => rfl) (fun _ => rfl) fun a b => (allE_eq a b).symm
theorem eqE_tupI : EqE (fun xs => D.tup (eI xs)) (fun xs => D.tup (eI xs)) 1 (fun a b => decide (a = b)) := (eqE_tup eqE_int).cg (fun _ => rfl) (fun _ => rfl) fun a b => (allE_eq a b).symm
theorem eqE_lstQ {α : Type} [DecidableEq α] {ea eb : α → D} {n : Nat} (f g : Fl) (h : EqE ea eb n (fun a b => decide (a = b))) : EqE (fun xs : List α => D.lst f (xs.map ea)) (fun xs : List α => D.lst g (xs.map eb)) (n + 1) (fun a b => decide (a = b)) :=
  (eqE_lst f g h).cg (fun _ => rfl) (fun _ => rfl) fun a b => (allE_eq a b).symm
theorem eqE_pairQ {α β : Type} [DecidableEq α] [DecidableEq β] {ea eb : α → D} {ea' eb' : β → D} {n : Nat} (h : EqE ea eb n (fun a b => decide (a = b))) (h' : EqE ea' eb' n (fun a b => decide (a = b))) :
    EqE (fun p : α × β => D.tup [ea p.1, ea' p.2]) (fun p : α × β => D.tup [eb p.1, eb' p.2]) (n + 1) (fun p q => decide (p = q)) :=
  (eqE_pair h h').cg (fun _ => rfl) (fun _ => rfl) fun a b => by
    obtain ⟨a1, a2⟩ := a
    obtain ⟨b1, b2⟩ := b
    by_cases h1 : a1 = b1 <;> by_cases h2 : a2 = b2 <;> simp [h1, h2]
/-! ### a body in two parts -/
def takeS : Nat → Ss → Ss
  | 0, _ => .nil
  | _ + 1, .nil => .nil
  | n + 1, .cons s ss => .cons s (takeS n ss)
  | n + 1, .ali i p b r => .ali i p b (takeS n r)
  | _ + 1, .alt a b => .alt a b
def dropS : Nat → Ss → Ss
  | 0, ss => ss
  | _ + 1, .nil => .nil
  | n + 1, .cons _ ss => dropS n ss
  | n + 1, .ali _ _ _ r => dropS n r
  | _ + 1, .alt _ _ => .nil
theorem thenS_thenS (x : Option Flow) (k k' : Env → Option Flow) : thenS (thenS x k) k' = thenS x fun ρ => thenS (k ρ) k' := by
  cases x with
  | none => rfl
  | some fl => cases fl <;> rfl
theorem thenS_none (k : Env → Option Flow) : thenS none k = none := rfl
theorem ss_split (Γ : Ctx) : ∀ (n : Nat) (b : Ss) (ρ : Env), exSs Γ b ρ = thenS (exSs Γ (takeS n b) ρ) (exSs Γ (dropS n b))
  | 0, b, ρ => by simp only [takeS, dropS, ss_nil, thenS_nx]
  | n + 1, .nil, ρ => by simp only [takeS, dropS, ss_nil, thenS_nx]
  | n + 1, .cons s ss, ρ => by
    simp only [takeS, dropS, ss_cons, thenS_thenS]
    congr 1
    funext ρ1
    exact ss_split Γ n ss ρ1
  | n + 1, .alt a b, ρ => by
    simp only [takeS, dropS]
    cases exSs Γ (.alt a b) ρ with
    | none => rfl
    | some fl => cases fl <;> simp [thenS, ss_nil]
  | n + 1, .ali i p b r, ρ => by
    simp only [takeS, dropS, ss_ali]
    cases getP ρ p with
    | none => rfl
    | some y =>
      cases ixsD ρ p with
      | none => rfl
      | some ns =>
        simp only [Option.bind_some, thenS_thenS]
        congr 1
        funext ρ1
        exact ss_split Γ n r ρ1
theorem ss_two {Γ : Ctx} (n : Nat) {b : Ss} {ρ ρ1 : Env} {fl : Flow} (h1 : exSs Γ (takeS n b) ρ = some (.nx ρ1)) (h2 : exSs Γ (dropS n b) ρ1 = some fl) : exSs Γ b ρ = some fl := by
  rw [ss_split Γ n b ρ, h1, thenS_nx, h2]
/-! ### loops by the turn's number -/
theorem forL_ix {α σ : Type} {bind : D → Env → Option Env} {body : Env → Option Flow} (enc : α → D) (env : σ → Env) (L : List α) (I : Nat → σ → Prop)
    (step : ∀ j a s, L[j]? = some a → I j s → ∃ s', ((bind (enc a) (env s)).bind body = some (.nx (env s')) ∨ (bind (enc a) (env s)).bind body = some (.ct (env s'))) ∧ I (j + 1) s') (s : σ) (h : I 0 s) :
    ∃ s', forL bind body (L.map enc) (env s) = some (.nx (env s')) ∧ I L.length s' := by
  obtain ⟨s', e, j, h1, h2, h3⟩ := forL_st (bind := bind) (body := body) enc env (fun l s => ∃ j, l = L.drop j ∧ j ≤ L.length ∧ I j s) (by
    rintro a l s ⟨j, h1, h2, h3⟩
    have hj : j < L.length := by
      by_cases q : j < L.length
      · exact q
      · rw [List.drop_eq_nil_of_le (by omega)] at h1; cases h1
    have e2 : L[j]? = some a := by
      have : (L.drop j)[0]? = some a := by rw [← h1]; rfl
      simpa using this
    obtain ⟨s', e, h4⟩ := step j a s e2 h3
    refine ⟨s', e, j + 1, ?_, hj, h4⟩
    have : (L.drop j).drop 1 = l := by rw [← h1]; rfl
    rw [← this, List.drop_drop]) L s ⟨0, rfl, Nat.zero_le _, h⟩
  have : j = L.length := by
    have : (L.drop j).length = 0 := by rw [← h1]; rfl
    rw [List.length_drop] at this; omega
  subst this
  exact ⟨s', e, h3⟩
theorem forL_rng {σ : Type} {bind : D → Env → Option Env} {body : Env → Option Flow} (env : σ → Env) (n : Nat) (I : Nat → σ → Prop)
    (step : ∀ j s, j < n → I j s → ∃ s', ((bind (.int (j : Int)) (env s)).bind body = some (.nx (env s')) ∨ (bind (.int (j : Int)) (env s)).bind body = some (.ct (env s'))) ∧ I (j + 1) s') (s : σ) (h : I 0 s) :
    ∃ s', forL bind body (rngL 0 n) (env s) = some (.nx (env s')) ∧ I n s' := by
  rw [rngL_0]
  obtain ⟨s', e, h'⟩ := forL_ix (bind := bind) (body := body) (fun (k : Nat) => D.int (k : Int)) env (List.range n) I (fun j a s ha hI => by
    obtain ⟨hj, ea⟩ := List.getElem?_eq_some_iff.mp ha
    simp only [List.length_range, List.getElem_range] at hj ea
    subst ea
    exact step j s hj hI) s h
  rw [List.length_range] at h'
  exact ⟨s', e, h'⟩
/-! ### slices -/
theorem slc_to (f : Fl) (xs : List D) (k : Nat) : slcD (.lst f xs) none (some (k : Int)) = some (.lst .own ((shares xs).take k)) := by
  simp only [slcD, cutD, HT.sIx_none, HT.sIx_nat, List.drop_zero, Nat.sub_zero]
  congr 2
  by_cases h : k ≤ (shares xs).length
  · rw [Nat.min_eq_left h]
  · rw [Nat.min_eq_right (by omega), List.take_of_length_le (Nat.le_refl _), List.take_of_length_le (by omega)]
theorem slc_from (f : Fl) (xs : List D) (k : Nat) : slcD (.lst f xs) (some (k : Int)) none = some (.lst .own ((shares xs).drop k)) := by
  simp only [slcD, cutD, HT.sIx_none, HT.sIx_nat]
  congr 2
  by_cases h : k ≤ (shares xs).length
  · rw [Nat.min_eq_left h, List.take_of_length_le (by rw [List.length_drop]; omega)]
  · rw [Nat.min_eq_right (by omega), List.drop_eq_nil_of_le (Nat.le_refl _), List.drop_eq_nil_of_le (by omega)]; simp
theorem b_mulL (f : Fl) (xs : List D) (k : Int) : binD .mul (.lst f xs) (.int k) = if f ≠ .frz ∧ -(2 ^ 63) ≤ k ∧ k < 2 ^ 63 ∧ xs.length * k.toNat ≤ SZ then some (.lst .own (List.replicate k.toNat (shares xs)).flatten) else none := by
  simp only [binD]
  by_cases h : f ≠ .frz ∧ -(2 ^ 63) ≤ k ∧ k < 2 ^ 63 ∧ xs.length * k.toNat ≤ SZ
  · rw [if_pos h, if_pos h]
  · rw [if_neg h, if_neg h]
theorem mulL_ok (f : Fl) (xs : List D) (k : Nat) (hf : f ≠ .frz) (hk : xs.length * k ≤ 1000000) (hk2 : k ≤ 1000000) : binD .mul (.lst f xs) (.int (k : Int)) = some (.lst .own (List.replicate k (shares xs)).flatten) := by
  rw [b_mulL, Int.toNat_natCast, if_pos ⟨hf, by omega, by omega, by rw [SZ_val]; omega⟩]
end FL

/-! F23: `in` over coded items, comprehensions with two fors. -/
namespace FL
open PySem
theorem anyE {α : Type} [DecidableEq α] {ea : α → D} {n : Nat} (h : EqE ea ea n (fun a b => decide (a = b))) (x : α) (p : PyData) (hp : toP (ea x) = some p) : ∀ (xs : List α) (ps : List PyData), toP.toPs (xs.map ea) = some ps → (ps.any fun z => PyData.eqv z p) = decide (x ∈ xs)
  | [], ps, e => by cases e; simp
  | y :: ys, ps, e => by
    simp only [List.map_cons, toP.toPs] at e
    obtain ⟨q, e1, e⟩ := Option.bind_eq_some_iff.mp e
    obtain ⟨qs, e2, rfl⟩ := Option.map_eq_some_iff.mp e
    rw [List.any_cons, h.eq y x q p e1 hp, anyE h x p hp ys qs e2]
    by_cases c : y = x
    · subst c; simp
    · have c' : ¬ x = y := fun z => c z.symm
      simp [c, c']
theorem c_memE {α : Type} [DecidableEq α] {ea : α → D} {n : Nat} (h : EqE ea ea n (fun a b => decide (a = b))) (hn : n + 1 ≤ 64) (f : Fl) (x : α) (xs : List α) (hf : flatD (ea x) = false) : cmpD .mem (ea x) (.lst f (xs.map ea)) = some (decide (x ∈ xs)) := by
  obtain ⟨p, e1, l1, d1⟩ := h.ga x
  obtain ⟨ps, e2, l2, d2⟩ := goods h.ga xs
  have s1 : SeqAt.shaped p = true := by unfold SeqAt.shaped; rw [l1]; simp; omega
  have s2 : SeqAt.shaped (.list ps) = true := by
    unfold SeqAt.shaped
    simp only [PyData.canLay0, PyData.depth, l2]
    simp; omega
  simp only [cmpD]
  rw [if_neg (by simp [hf])]
  unfold memP
  rw [e1, e2]
  simp only [s1, s2, Bool.and_self, if_true]
  rw [anyE h x p e1 xs ps e2]
theorem comp2_flat {α β : Type} {t1 t2 : Tg} {i2 : Env → Option (List D × Env)} {ct : Env → Option (Bool × Env)} {ee : Env → Option (D × Env)} {ρ : Env} (enc : α → D) (g : α → List β) (eb res : β → D) : ∀ (l : List α) {acc : List D},
    (∀ a ∈ l, ∃ ρ1 ρ2 ρ3, bindT t1 (enc a) ρ = some ρ1 ∧ i2 ρ1 = some ((g a).map eb, ρ2) ∧ (∀ acc : List D, acc.length + (g a).length ≤ SZ → compL (bindT t2) ct ee t2.slots ((g a).map eb) (wipeD ρ2 t2.slots) acc = some (acc ++ (g a).map res, ρ3)) ∧ wipeD ρ3 (t1.slots ++ t2.slots) = ρ) →
    acc.length + (l.flatMap g).length ≤ SZ → comp2L t1 t2 i2 ct ee (l.map enc) ρ acc = some (acc ++ (l.flatMap g).map res, ρ)
  | [], acc, _, _ => by simp [comp2L]
  | a :: l, acc, h, hz => by
    obtain ⟨ρ1, ρ2, ρ3, e1, e2, e3, e4⟩ := h a (by simp)
    simp only [List.flatMap_cons, List.length_append] at hz
    simp only [List.map_cons, comp2L, e1, e2, Option.bind_some, e3 acc (by omega), e4]
    rw [comp2_flat enc g eb res l (fun b hb => h b (by simp [hb])) (by simp only [List.length_append, List.length_map]; omega)]
    simp
/-- a comprehension with a test -/
theorem compL_filt {α : Type} {bind : D → Env → Option Env} {cond : Env → Option (Bool × Env)} {elt : Env → Option (D × Env)} {vs : List Nat} {ρ : Env} (enc res : α → D) (c : α → Bool) : ∀ (l : List α) {acc : List D},
    (∀ a ∈ l, ∃ ρ1 ρ2 ρ3, bind (enc a) ρ = some ρ1 ∧ cond ρ1 = some (c a, ρ2) ∧ wipeD ρ2 vs = ρ ∧ (c a = true → elt ρ2 = some (res a, ρ3) ∧ wipeD ρ3 vs = ρ)) → acc.length + l.length ≤ SZ → compL bind cond elt vs (l.map enc) ρ acc = some (acc ++ (l.filter c).map res, ρ)
  | [], acc, _, _ => by simp [compL]
  | a :: l, acc, h, hz => by
    obtain ⟨ρ1, ρ2, ρ3, e1, e2, e3, e4⟩ := h a (by simp)
    have hz' : acc.length < SZ := by simp only [List.length_cons] at hz; omega
    simp only [List.map_cons]
    unfold compL
    cases ca : c a with
    | false =>
      rw [ca] at e2
      simp only [e1, Option.bind_some, e2, e3]
      rw [compL_filt enc res c l (fun b hb => h b (List.mem_cons_of_mem _ hb)) (by simp only [List.length_cons] at hz; omega)]
      simp [ca]
    | true =>
      rw [ca] at e2
      obtain ⟨e5, e6⟩ := e4 ca
      simp only [e1, Option.bind_some, e2, e5, if_pos hz', e6]
      rw [compL_filt enc res c l (fun b hb => h b (List.mem_cons_of_mem _ hb)) (by simp only [List.length_append, List.length_cons, List.length_nil] at hz ⊢; omega)]
      simp [ca]
end FL

/-! F24: how to reckon with exceptions. -/
namespace FL
open PySem PySem.Spec PyProof.Rows L2
section
variable (Γ : Ctx) (ρ : Env)
@[simp] theorem x_call (f : Nat) (as : As) : evX Γ (.call f as) ρ = (evAs Γ as ρ).bind fun p => (takeA as p.1 p.2).bind fun q => (Γ.fx f q.1).bind fun r => (putA as r.2 q.2).map fun ρ' => (r.1, ρ') := by simp only [evX]
@[simp] theorem x_meth (m : PySem.Str) (o : A) (as : As) : evX Γ (.meth m o as) ρ = (evA Γ o ρ).bind fun x => (recvD o x.1 x.2).bind fun s => (methD Γ.ms m s).bind fun f => (evAs Γ as x.2).bind fun p => (takeA (.cons o as) (x.1 :: p.1) p.2).bind fun q => (Γ.fx f q.1).bind fun r => (putA (.cons o as) r.2 q.2).map fun ρ' => (r.1, ρ') := by simp only [evX]
def madeX : Exn × List (Option D) → Option (Exn × List (Option D))
  | (x, _ :: os) => some (x, os)
  | _ => none
@[simp] theorem madeX_mk (x : Exn) (o : Option D) (os : List (Option D)) : madeX (x, o :: os) = some (x, os) := Eq.trans rfl rfl
@[simp] theorem x_make (c : PySem.Str) (f : Nat) (as : As) : evX Γ (.make c f as) ρ = (evAs Γ as ρ).bind fun p => (takeA as p.1 p.2).bind fun q => (Γ.fx f (.obj .own c [] [] :: q.1)).bind fun r => (madeX r).bind fun z => (putA as z.2 q.2).map fun ρ' => (z.1, ρ') := by
  simp only [evX]; congr 1; funext p; congr 1; funext q; congr 1; funext r
  obtain ⟨d, os⟩ := r
  cases os <;> rfl
@[simp] theorem x_shr (a : E) : evX Γ (.shr a) ρ = evX Γ a ρ := by simp only [evX]
@[simp] theorem bare_2 {α : Type} (d : α) : bareO (d, [(none : Option D), none]) = some d := Eq.trans rfl rfl
@[simp] theorem s_setS (i : Nat) (a b e : E) : exS Γ (.setS i a b e) ρ = (evE Γ e ρ).bind fun p => (getS p.2 i).bind fun _ => (evE Γ a p.2).bind fun q => (evE Γ b q.2).bind fun r => (getS r.2 i).bind fun x => (slcS x q.1 r.1 p.1).map fun z => .nx (r.2.set i (some z)) := by simp only [exS]
@[simp] theorem s_swp (i j : Nat) (a b e : E) : exS Γ (.swp i j a b e) ρ = (evE Γ e ρ).bind fun p => (g2 (evE Γ a) (evE Γ b) i j p.1 p.2).map .nx := by simp only [exS]
@[simp] theorem g2_t (eb ec : Env → Option (D × Env)) (i j : Nat) (d1 d2 : D) (ρ : Env) : g2 eb ec i j (.tup [d1, d2]) ρ = ((getS ρ i).bind fun _ => (eb ρ).bind fun q => (getS q.2 i).bind fun x => (setID x q.1 d1).map fun z => q.2.set i (some z)).bind fun ρ1 =>
      (getS ρ1 j).bind fun _ => (ec ρ1).bind fun q => (getS q.2 j).bind fun x => (setID x q.1 d2).map fun z => q.2.set j (some z) := Eq.trans rfl rfl
theorem slcS_l (xs ys : List D) (a b : Int) (h : 0 ≤ a ∧ a ≤ b ∧ b ≤ xs.length ∧ xs.length + ys.length ≤ SZ) : slcS (.lst .own xs) (.int a) (.int b) (.lst .own ys) = some (.lst .own (xs.take a.toNat ++ ys ++ xs.drop b.toNat)) := by
  simp only [slcS]
  rw [if_pos h]
@[simp] theorem e_gti (o b : E) : evE Γ (.gti o b) ρ = (evE Γ o ρ).bind fun p => (evE Γ b p.2).bind fun q => (methD Γ.ms (PySem.Str.ofString "__getitem__") p.1).bind fun f => (Γ.fs f [p.1, q.1]).bind fun r => (bareO r).map fun d => (d, q.2) := by simp only [evE]
@[simp] theorem x_gti (o b : E) : evX Γ (.gti o b) ρ = (evE Γ o ρ).bind fun p => (evE Γ b p.2).bind fun q => (methD Γ.ms (PySem.Str.ofString "__getitem__") p.1).bind fun f => (Γ.fx f [p.1, q.1]).bind fun r => (bareO r).map fun x => (x, q.2) := by simp only [evX]
@[simp] theorem x_cmp (op : COp) (a b : E) : evX Γ (.cmp op a b) ρ = evX Γ a ρ := by simp only [evX]
@[simp] theorem x_blt (b : Blt) (es : Es) : evX Γ (.blt b es) ρ = evXs Γ es ρ := by simp only [evX]
@[simp] theorem x_tup (es : Es) : evX Γ (.tup es) ρ = evXs Γ es ρ := by simp only [evX]
def nextX (a : Option (D × Env)) (b : Option (Exn × Env)) (k : Env → Option (Exn × Env)) : Option (Exn × Env) := match a with
  | some p => k p.2
  | none => b
@[simp] theorem nextX_some (p : D × Env) (b : Option (Exn × Env)) (k : Env → Option (Exn × Env)) : nextX (some p) b k = k p.2 := Eq.trans rfl rfl
@[simp] theorem nextX_none (b : Option (Exn × Env)) (k : Env → Option (Exn × Env)) : nextX none b k = b := Eq.trans rfl rfl
@[simp] theorem xs_cons (e : E) (es : Es) : evXs Γ (.cons e es) ρ = nextX (evE Γ e ρ) (evX Γ e ρ) (evXs Γ es) := by
  simp only [evXs, nextX] <;> (cases evE Γ e ρ <;> rfl)
@[simp] theorem orX_some (fl : Flow) (b : Option (Exn × Env)) : orX (some fl) b = some fl := Eq.trans rfl rfl
@[simp] theorem orX_none (b : Option (Exn × Env)) : orX none b = b.map fun p => .ex p.1 p.2 := Eq.trans rfl rfl
@[simp] theorem m_set (e : E) (t : Tg) : mayN Γ e ρ (.set t) = (evE Γ e ρ).bind fun p => (bindT t p.1 p.2).map .nx := by simp only [mayN]
@[simp] theorem m_ex (e : E) : mayN Γ e ρ .ex = (evE Γ e ρ).map fun p => .nx p.2 := by simp only [mayN]
@[simp] theorem m_ret (e : E) : mayN Γ e ρ .ret = (evE Γ e ρ).map fun p => .rt p.1 p.2 := by simp only [mayN]
@[simp] theorem s_may (k : May) (e : E) : exS Γ (.may k e) ρ = orX (mayN Γ e ρ k) (evX Γ e ρ) := by simp only [exS]
@[simp] theorem s_rse0 (c : PySem.Str) : exS Γ (.rse0 c) ρ = some (.ex ⟨c, none⟩ ρ) := by simp only [exS]
@[simp] theorem s_rse1 (c f : PySem.Str) (e : E) : exS Γ (.rse1 c f e) ρ = (evE Γ e ρ).map fun p => .ex ⟨c, some (f, p.1)⟩ p.2 := by simp only [exS]
def tryF (x : Option Flow) (k : Exn → Env → Option Flow) : Option Flow := x.bind fun fl => match fl with
  | .ex x ρ1 => k x ρ1
  | fl => some fl
@[simp] theorem tryF_nx (k : Exn → Env → Option Flow) : tryF (some (.nx ρ)) k = some (.nx ρ) := Eq.trans rfl rfl
@[simp] theorem tryF_rt (d : D) (k : Exn → Env → Option Flow) : tryF (some (.rt d ρ)) k = some (.rt d ρ) := Eq.trans rfl rfl
@[simp] theorem tryF_bk (k : Exn → Env → Option Flow) : tryF (some (.bk ρ)) k = some (.bk ρ) := Eq.trans rfl rfl
@[simp] theorem tryF_ct (k : Exn → Env → Option Flow) : tryF (some (.ct ρ)) k = some (.ct ρ) := Eq.trans rfl rfl
@[simp] theorem tryF_ex (x : Exn) (k : Exn → Env → Option Flow) : tryF (some (.ex x ρ)) k = k x ρ := Eq.trans rfl rfl
@[simp] theorem s_try (b : Ss) (hs : List Hd) : exS Γ (.try_ b hs) ρ = tryF (exSs Γ b ρ) (fun x ρ1 => exHd Γ x ρ1 hs) := by
  simp only [exS, tryF] <;> (rcases exSs Γ b ρ with _ | fl; rfl; cases fl <;> rfl)
@[simp] theorem thenS_ex (x : Exn) (k : Env → Option Flow) : thenS (some (.ex x ρ)) k = some (.ex x ρ) := Eq.trans rfl rfl
@[simp] theorem hd_nil (x : Exn) : exHd Γ x ρ [] = some (.ex x ρ) := by simp only [exHd]
@[simp] theorem hd_cons (x : Exn) (h : Hd) (hs : List Hd) : exHd Γ x ρ (h :: hs) = (isX Γ.xt x.c h.c).bind fun b => if b = true then exSS Γ x (slOut ρ h.sl) h.s else exHd Γ x ρ hs := by simp only [exHd]
@[simp] theorem slOut_n : slOut ρ none = ρ := Eq.trans rfl rfl
@[simp] theorem slOut_s (i : Nat) : slOut ρ (some i) = ρ.set i none := Eq.trans rfl rfl
@[simp] theorem ss_set (x : Exn) (i : Nat) (e : SE) : exSS Γ x ρ (.set i e) = (evSE Γ x e).bind fun d => (putS ρ i d).map .nx := by simp only [exSS]
@[simp] theorem ss_ret (x : Exn) (e : SE) : exSS Γ x ρ (.ret e) = (evSE Γ x e).map fun d => .rt d ρ := by simp only [exSS]
@[simp] theorem se_cst (x : Exn) (c : Cst) : evSE Γ x (.cst c) = some (evCst c) := by simp only [evSE]
@[simp] theorem se_fld (c f g : PySem.Str) (d : D) : evSE Γ ⟨c, some (g, d)⟩ (.fld f) = if g = f then some (share d) else none := by simp only [evSE, Option.bind_some]
@[simp] theorem se_isx (x : Exn) (c : PySem.Str) : evSE Γ x (.isx c) = (isX Γ.xt x.c c).map .bl := by simp only [evSE]
@[simp] theorem se_tup (x : Exn) (es : SEs) : evSE Γ x (.tup es) = (evSEs Γ x es).bind fun ds => if ds.length ≤ SZ then some (.tup ds) else none := by simp only [evSE]
def andD : D → Option D → Option D
  | .bl true, b => b.bind fun d' => match d' with
    | .bl k => some (.bl k)
    | _ => none
  | .bl false, _ => some (.bl false)
  | _, _ => none
@[simp] theorem andD_t (k : Bool) : andD (.bl true) (some (.bl k)) = some (.bl k) := Eq.trans rfl rfl
@[simp] theorem andD_f (b : Option D) : andD (.bl false) b = some (.bl false) := Eq.trans rfl rfl
@[simp] theorem se_and (x : Exn) (a b : SE) : evSE Γ x (.and a b) = (evSE Γ x a).bind fun d => andD d (evSE Γ x b) := by
  simp only [evSE]; congr 1; funext d
  cases d with
  | bl k => cases k <;> rfl
  | _ => rfl
@[simp] theorem intO_int (i : Int) : intO (.int i) = some true := Eq.trans rfl rfl
@[simp] theorem se_int (x : Exn) (f : Nat) (a : SE) : evSE Γ x (.isint f a) = (evSE Γ x a).bind fun d => (intO d).map .bl := by simp only [evSE]
@[simp] theorem ses_nil (x : Exn) : evSEs Γ x .nil = some [] := by simp only [evSEs]
@[simp] theorem ses_cons (x : Exn) (e : SE) (es : SEs) : evSEs Γ x (.cons e es) = (evSE Γ x e).bind fun d => (evSEs Γ x es).map fun ds => d :: ds := by simp only [evSEs]
end
/-- a def that raises -/
def endX (io : List Nat) (n : Nat) (x : Option Flow) : Option (Exn × List (Option D)) := x.bind fun fl => match fl with
  | .ex x ρ => some (x, outsFrom io ρ 0 n)
  | _ => none
@[simp] theorem endX_ex (io : List Nat) (n : Nat) (x : Exn) (ρ : Env) : endX io n (some (.ex x ρ)) = some (x, outsFrom io ρ 0 n) := Eq.trans rfl rfl
@[simp] theorem endF_ex (io : List Nat) (n : Nat) (x : Exn) (ρ : Env) : endF io n (some (.ex x ρ)) = none := Eq.trans rfl rfl
@[simp] theorem endX_nx (io : List Nat) (n : Nat) (ρ : Env) : endX io n (some (.nx ρ)) = none := Eq.trans rfl rfl
@[simp] theorem endX_rt (io : List Nat) (n : Nat) (d : D) (ρ : Env) : endX io n (some (.rt d ρ)) = none := Eq.trans rfl rfl
@[simp] theorem isi_dic (n : String) : isiD .dic (.bi n) = some (decide (n = "dict")) := by simp only [isiD]
@[simp] theorem sh_dic : share .dic = .dic := by simp [share]
@[simp] theorem e_dic (Γ : Ctx) (ρ : Env) : evE Γ .dic0 ρ = some (.dic, ρ) := by simp only [evE]
theorem runFnX_eq {Γ : Ctx} {fn : Fn} {ds : List D} (h : ds.length = fn.ps.length) : runFnX Γ fn ds = endX fn.io fn.ps.length (exSs Γ fn.body (ds.map some ++ List.replicate (fn.N.length - ds.length) none)) := by
  unfold runFnX endX
  (rw [if_pos h]) <;> rfl
end FL

/-! F25: how to reckon with names for items, loops that change their items, own ==. -/
namespace FL
open PySem PySem.Spec PyProof.Rows L2
section
variable (Γ : Ctx) (ρ : Env)
@[simp] theorem e_oeq (o b : E) : evE Γ (.oeq o b) ρ = (evE Γ o ρ).bind fun p => (evE Γ b p.2).bind fun q => if eqR p.1 q.1 = true then (methD Γ.ms (PySem.Str.ofString "__eq__") p.1).bind fun f => (Γ.fs f [p.1, q.1]).bind fun r => (bareO r).bind fun d => (blO d).map fun k => (.bl k, q.2) else none := by simp only [evE]
noncomputable def lrgD : D → Option D
  | .int n => @ite _ (-(2 ^ 62) ≤ n ∧ n ≤ 16777216) (Classical.propDecidable _) (some (.lst .own (rngL 0 n.toNat))) none
  | _ => none
@[simp] theorem e_lrg (a : E) : evE Γ (.lrg a) ρ = (evE Γ a ρ).bind fun p => (lrgD p.1).map fun d => (d, p.2) := by
  simp only [evE]
  congr 1; funext p
  obtain ⟨d, ρ'⟩ := p
  cases d <;> try rfl
  simp only [lrgD]
  split <;> rfl
theorem lrgD_int (n : Int) (h : -(2 ^ 62) ≤ n ∧ n ≤ 16777216) : lrgD (.int n) = some (.lst .own (rngL 0 n.toNat)) := by
  simp only [lrgD]
  rw [if_pos h]
@[simp] theorem e_plc (p : Pl) : evE Γ (.plc p) ρ = (getP ρ p).bind fun y => (putP ρ p (share y)).map fun z => (share y, ρ.set p.base (some z)) := by simp only [evE]
@[simp] theorem bindT_l (is : List Nat) (f : Fl) (ds : List D) : bindT (.names is) (.lst f ds) ρ = if is.length = ds.length then putAll ρ is (shares ds) else none := Eq.trans rfl rfl
@[simp] theorem blO_bl (b : Bool) : blO (.bl b) = some b := Eq.trans rfl rfl
@[simp] theorem eqR_o (f g : Fl) (c c' : PySem.Str) (ns ms : List PySem.Str) (xs ys : List D) : eqR (.obj f c ns xs) (.obj g c' ms ys) = decide (c = c') := Eq.trans rfl rfl
@[simp] theorem eqR_n (f : Fl) (c : PySem.Str) (ns : List PySem.Str) (xs : List D) : eqR (.obj f c ns xs) .non = true := Eq.trans rfl rfl
@[simp] theorem eqR_l (f g : Fl) (c : PySem.Str) (ns : List PySem.Str) (xs ys : List D) : eqR (.obj f c ns xs) (.lst g ys) = true := Eq.trans rfl rfl
@[simp] theorem eqR_t (f : Fl) (c : PySem.Str) (ns : List PySem.Str) (xs ys : List D) : eqR (.obj f c ns xs) (.tup ys) = true := Eq.trans rfl rfl
@[simp] theorem io_o (f : Fl) (c c' : PySem.Str) (ns : List PySem.Str) (xs : List D) : isiD (.obj f c ns xs) (.own c') = if c = c' then some true else none := Eq.trans rfl rfl
@[simp] theorem io_n (c : PySem.Str) : isiD .non (.own c) = some false := Eq.trans rfl rfl
@[simp] theorem io_l (f : Fl) (xs : List D) (c : PySem.Str) : isiD (.lst f xs) (.own c) = some false := Eq.trans rfl rfl
@[simp] theorem io_t (xs : List D) (c : PySem.Str) : isiD (.tup xs) (.own c) = some false := Eq.trans rfl rfl
@[simp] theorem s_mutN (i : Nat) (op : MOp) (es : Es) : exS Γ (.mutN i op es) ρ = (getS ρ i).bind fun x0 => if isLst x0 = true then (evEs Γ es ρ).bind fun q => (getS q.2 i).bind fun x => (lstO x).bind fun ds => (mopD op ds q.1).map fun ds' => .nx (q.2.set i (some (.lst .own ds'))) else none := by simp only [exS]
@[simp] theorem s_loopO (t b : Nat) (body : Ss) : exS Γ (.loopO t b body) ρ = (lenO ρ b).bind fun n => loopOL (exSs Γ body) t b n n 0 ρ := by simp only [exS]
@[simp] theorem s_par (is : List Nat) (es : Es) : exS Γ (.par is es) ρ = (evEs Γ es ρ).bind fun p => (putAll p.2 is p.1).map .nx := by simp only [exS]
@[simp] theorem allV_c (r : Flow) : (allV fun _ => some r) = some r := allV_of fun _ => rfl
@[simp] theorem giveF_nx (i b : Nat) (ns : List Int) (v : V) : giveF i b ns v (.nx ρ) = (giveE i b ns v ρ).map .nx := Eq.trans rfl rfl
@[simp] theorem giveF_rt (i b : Nat) (ns : List Int) (v : V) (d : D) : giveF i b ns v (.rt d ρ) = (giveE i b ns v ρ).map (.rt d) := Eq.trans rfl rfl
theorem giveE_of {i b : Nat} {ns : List Int} {v : V} {ρ : Env} {y d z : D} (h1 : getS ρ i = some y) (h2 : getS ρ b = some d) (h3 : getN ns d = some (.hole v)) (h4 : putN ns d y = some z) : giveE i b ns v ρ = some ((ρ.set i none).set b (some z)) := by
  unfold giveE
  rw [h1, h2]
  simp only [Option.bind_some]
  rw [if_pos h3, h4]
  rfl
end
end FL

/-! F26: places by their paths; a name for an item; a loop that changes its items. -/
namespace FL
open PySem PySem.Spec PyProof.Rows L2
theorem getN_snoc (n : Int) : ∀ (ns : List Int) (d : D), getN (ns ++ [n]) d = (getN ns d).bind fun x => get1 x n
  | [], d => by simp [getN]
  | m :: ns, d => by
    simp only [List.cons_append, getN]
    cases get1 d m with
    | none => rfl
    | some x => simp only [Option.bind_some]; exact getN_snoc n ns x
theorem putN_snoc (n : Int) (y : D) : ∀ (ns : List Int) (d : D), putN (ns ++ [n]) d y = (getN ns d).bind fun x => (put1 x n y).bind fun x' => putN ns d x'
  | [], d => by
    simp only [List.nil_append, putN, getN, Option.bind_some]
    cases e : get1 d n with
    | none =>
      simp only [Option.bind_none]
      unfold get1 at e
      unfold put1
      split at e
      · rename_i ho
        rw [if_pos ho]
        cases ei : ixN (itemsD d).length n with
        | none => rfl
        | some j =>
          rw [ei] at e
          simp only [Option.bind_some] at e
          have := ixN_lt ei
          rw [List.getElem?_eq_getElem this] at e
          cases e
      · rename_i ho
        rw [if_neg ho]; rfl
    | some x => simp
  | m :: ns, d => by
    simp only [List.cons_append, putN, getN]
    cases get1 d m with
    | none => rfl
    | some x =>
      simp only [Option.bind_some]
      rw [putN_snoc n y ns x]
      cases getN ns x with
      | none => rfl
      | some x1 =>
        simp only [Option.bind_some]
        cases put1 x1 n y with
        | none => rfl
        | some x2 => simp only [Option.bind_some]
theorem getP_N {ρ : Env} {d : D} : ∀ {p : Pl} {ns : List Int}, getS ρ p.base = some d → ixsD ρ p = some ns → getP ρ p = getN ns d
  | .nm i, ns, h, e => by
    cases e
    simp only [getP, getN]; exact h
  | .sub p ix, ns, h, e => by
    simp only [ixsD] at e
    obtain ⟨ms, e1, e⟩ := bnd e
    obtain ⟨n, e2, rfl⟩ := mpd e
    simp only [getP]
    rw [getP_N (p := p) h e1, getN_snoc, e2]
    rfl
theorem putP_N {ρ : Env} {d : D} : ∀ {p : Pl} {ns : List Int} {y : D}, getS ρ p.base = some d → ixsD ρ p = some ns → putP ρ p y = putN ns d y
  | .nm i, ns, y, h, e => by
    cases e
    simp only [putP, putN]
  | .sub p ix, ns, y, h, e => by
    simp only [ixsD] at e
    obtain ⟨ms, e1, e⟩ := bnd e
    obtain ⟨n, e2, rfl⟩ := mpd e
    simp only [putP]
    rw [getP_N (p := p) h e1, putN_snoc, e2]
    cases getN ms d with
    | none => rfl
    | some x =>
      simp only [Option.bind_some]
      cases put1 x n y with
      | none => rfl
      | some x' => simp only [Option.bind_some]; exact putP_N (p := p) h e1
theorem put1_of {d x : D} {n : Int} (y : D) (h : get1 d n = some x) : ∃ z, put1 d n y = some z ∧ get1 z n = some y ∧ ∀ y', put1 z n y' = put1 d n y' := by
  obtain ⟨j, ho, ej, ex⟩ := get1_some h
  have hj := ixN_lt ej
  have l : ((itemsD d).set j y).length = (itemsD d).length := List.length_set
  refine ⟨setSeq d ((itemsD d).set j y), by unfold put1; rw [if_pos ho, ej]; rfl, ?_, fun y' => ?_⟩
  · unfold get1
    rw [if_pos (setSeq_own ho), items_setSeq ho, l, ej]
    simp [hj]
  · unfold put1
    rw [if_pos (setSeq_own ho), items_setSeq ho, l, if_pos ho, ej]
    simp [setSeq_setSeq, List.set_set]
theorem putN_of : ∀ {ns : List Int} {d x : D} (y : D), getN ns d = some x → ∃ z, putN ns d y = some z ∧ getN ns z = some y ∧ ∀ y', putN ns z y' = putN ns d y'
  | [], d, x, y, h => ⟨y, rfl, rfl, fun _ => rfl⟩
  | n :: ns, d, x, y, h => by
    simp only [getN] at h
    obtain ⟨x1, e1, e2⟩ := bnd h
    obtain ⟨z1, f1, f2, f3⟩ := putN_of y e2
    obtain ⟨z, g1, g2, g3⟩ := put1_of z1 e1
    refine ⟨z, by simp only [putN, e1, Option.bind_some, f1]; exact g1, by simp only [getN, g2, Option.bind_some]; exact f2, fun y' => ?_⟩
    simp only [putN, g2, e1, Option.bind_some, f3]
    cases putN ns x1 y' with
    | none => rfl
    | some q => simp only [Option.bind_some]; exact g3 q
theorem getS_set_eq {ρ : Env} {i : Nat} {d : D} (h : i < ρ.length) : getS (ρ.set i (some d)) i = some d := by
  unfold getS
  rw [List.getElem?_set_self h]
/-- a name for an item: the body leaves the container alone -/
theorem ss_ali_nx {Γ : Ctx} {ρ ρ2 : Env} {i : Nat} {p : Pl} {body rest : Ss} {y y' d z' : D} {ns : List Int} (h2 : ixsD ρ p = some ns) (h3 : getS ρ p.base = some d) (h1 : getN ns d = some y) (hne : i ≠ p.base) (hi : i < ρ.length)
    (hb : ∀ z : D, exSs Γ body ((ρ.set p.base (some z)).set i (some y)) = some (.nx (ρ2.set p.base (some z)))) (h5 : getS ρ2 i = some y') (hl : p.base < ρ2.length) (h6 : putN ns d y' = some z') :
    exSs Γ (.ali i p body rest) ρ = exSs Γ rest ((ρ2.set i none).set p.base (some z')) := by
  rw [ss_ali, getP_N h3 h2, h1, h2]
  simp only [Option.bind_some]
  rw [allV_of (r := .nx ((ρ2.set i none).set p.base (some z')))]
  · rfl
  · intro v
    obtain ⟨z, f1, f2, f3⟩ := putN_of (.hole v) h1
    rw [putP_N h3 h2, f1]
    simp only [Option.bind_some]
    have hp : putS (ρ.set p.base (some z)) i y = some ((ρ.set p.base (some z)).set i (some y)) := by unfold putS; rw [if_pos (by rw [len_set]; exact hi)]
    rw [hp]
    simp only [Option.bind_some]
    rw [hb z]
    simp only [Option.bind_some, giveF_nx]
    rw [giveE_of (y := y') (d := z) (z := z') ((getS_set_ne (Ne.symm hne)).trans h5) (getS_set_eq hl) f2 ((f3 y').trans h6)]
    simp only [Option.map_some]
    rw [List.set_comm _ _ (Ne.symm hne), List.set_set]
/-- a loop that changes its items; the body leaves the list alone -/
theorem loopOL_st {σ : Type} {body : Env → Option Flow} {t b : Nat} (htb : t ≠ b) (env : σ → Env) (ds : List D) (I : Nat → σ → Prop) (R : Nat → D → D → Prop) (hb : ∀ s, b < (env s).length) (ht : ∀ s, t < (env s).length)
    (step : ∀ j s y, ds[j]? = some y → I j s → ∃ s' y', (∀ z : D, body (((env s).set b (some z)).set t (some y)) = some (.nx ((env s').set b (some z)))) ∧ getS (env s') t = some y' ∧ R j y y' ∧ I (j + 1) s') :
    ∀ (s : σ) (xs : List D), I xs.length s → (∀ j x y, xs[j]? = some x → ds[j]? = some y → R j y x) → ∀ (rest : List D), rest = ds.drop xs.length → xs.length ≤ ds.length → (env s)[t]? = some none ∨ xs ≠ [] →
      ∃ s' ds', loopOL body t b ds.length (ds.length - xs.length) xs.length (((env s).set t none).set b (some (.lst .own (xs ++ rest)))) = some (.nx (((env s').set t none).set b (some (.lst .own ds')))) ∧ ds'.length = ds.length ∧ (∀ j x y, ds'[j]? = some x → ds[j]? = some y → R j y x) ∧ I ds.length s' := by
  intro s xs hI hR rest hr hle hd
  induction hk : ds.length - xs.length generalizing s xs rest with
  | zero =>
    have e : xs.length = ds.length := by omega
    have er : rest = [] := by rw [hr, e]; simp
    subst er
    refine ⟨s, xs, ?_, e, hR, by rw [← e]; exact hI⟩
    unfold loopOL
    rw [List.append_nil]
    have : lenO (((env s).set t none).set b (some (.lst .own xs))) b = some ds.length := by
      unfold lenO
      rw [getS_set_eq (by rw [len_set]; exact hb s)]
      simp [lstO, e]
    rw [if_pos this]
  | succ k ih =>
    have hlt : xs.length < ds.length := by omega
    have ey : ds[xs.length]? = some ds[xs.length] := List.getElem?_eq_getElem hlt
    obtain ⟨s', y', hbody, hy', hRy, hI'⟩ := step xs.length s _ ey hI
    have er : rest = ds[xs.length] :: ds.drop (xs.length + 1) := by rw [hr]; exact List.drop_eq_getElem_cons hlt
    have hlen : (xs ++ rest).length = ds.length := by rw [hr]; simp; omega
    have hL : lenO (((env s).set t none).set b (some (.lst .own (xs ++ rest)))) b = some ds.length := by
      unfold lenO
      rw [getS_set_eq (by rw [len_set]; exact hb s)]
      simp only [Option.bind_some, lstO, Option.map_some, hlen]
    have hget : (xs ++ rest)[xs.length]? = some ds[xs.length] := by rw [List.getElem?_append_right (Nat.le_refl _), Nat.sub_self, er]; rfl
    have hstep : stepO body t b xs.length (((env s).set t none).set b (some (.lst .own (xs ++ rest)))) = some (.nx (((env s').set t none).set b (some (.lst .own ((xs ++ [y']) ++ ds.drop (xs.length + 1)))))) := by
      unfold stepO
      rw [getS_set_eq (by rw [len_set]; exact hb s)]
      simp only [Option.bind_some, lstO, hget]
      refine allV_of fun v => ?_
      have hp : putS ((((env s).set t none).set b (some (.lst .own (xs ++ rest)))).set b (some (.lst .own ((xs ++ rest).set xs.length (.hole v))))) t ds[xs.length] = some (((env s).set b (some (.lst .own ((xs ++ rest).set xs.length (.hole v))))).set t (some ds[xs.length])) := by
        unfold putS
        rw [if_pos (by rw [len_set, len_set, len_set]; exact ht s), List.set_set, List.set_comm _ _ (Ne.symm htb), List.set_set, List.set_comm _ _ htb]
      rw [hp]
      simp only [Option.bind_some]
      rw [hbody]
      simp only [Option.bind_some, giveF_nx]
      have hj : xs.length < ((xs ++ rest).set xs.length (.hole v)).length := by rw [List.length_set, hlen]; exact hlt
      have g1 : getN [(xs.length : Int)] (.lst .own ((xs ++ rest).set xs.length (.hole v))) = some (.hole v) := by
        simp only [getN, get1, ownC, itemsD, if_true]
        rw [ixN_ok _ _ hj]
        show ((xs ++ rest).set xs.length (.hole v))[xs.length]?.bind some = _
        rw [List.getElem?_set_self (by rw [hlen]; exact hlt)]
        rfl
      have g2 : putN [(xs.length : Int)] (.lst .own ((xs ++ rest).set xs.length (.hole v))) y' = some (.lst .own ((xs ++ rest).set xs.length y')) := by
        simp only [putN, get1, put1, ownC, itemsD, if_true]
        rw [ixN_ok _ _ hj]
        simp only [Option.bind_some, Option.map_some, setSeq, List.set_set]
        rw [List.getElem?_set_self (by rw [hlen]; exact hlt)]
        rfl
      rw [giveE_of ((getS_set_ne (Ne.symm htb)).trans hy') (getS_set_eq (hb s')) g1 g2]
      simp only [Option.map_some]
      rw [List.set_comm _ _ (Ne.symm htb), List.set_set]
      have el : (xs ++ rest).set xs.length y' = (xs ++ [y']) ++ ds.drop (xs.length + 1) := by
        rw [er, List.set_append_right _ _ (Nat.le_refl _), Nat.sub_self, List.append_assoc]
        rfl
      rw [el]
    unfold loopOL
    rw [if_pos hL, hstep]
    simp only [Option.bind_some]
    have l1 : (xs ++ [y']).length = xs.length + 1 := by simp
    obtain ⟨s2, ds', e, h1, h2, h3⟩ := ih s' (xs ++ [y']) (by rw [l1]; exact hI') (fun j x y hx hy => by
      by_cases hj : j < xs.length
      · rw [List.getElem?_append_left hj] at hx
        exact hR j x y hx hy
      · have : j = xs.length := by
          have := (List.getElem?_eq_some_iff.mp hx).1
          rw [l1] at this; omega
        subst this
        simp at hx
        subst hx
        rw [ey] at hy; cases hy
        exact hRy) (ds.drop (xs.length + 1)) (by rw [l1]) (by rw [l1]; omega) (.inr (by simp)) (by rw [l1]; omega)
    rw [l1] at e
    exact ⟨s2, ds', e, h1, h2, h3⟩
theorem loopO_ok {σ : Type} {body : Env → Option Flow} {t b : Nat} (htb : t ≠ b) (env : σ → Env) (ds : List D) (I : Nat → σ → Prop) (R : Nat → D → D → Prop) (hb : ∀ s, b < (env s).length) (ht : ∀ s, t < (env s).length)
    (step : ∀ j s y, ds[j]? = some y → I j s → ∃ s' y', (∀ z : D, body (((env s).set b (some z)).set t (some y)) = some (.nx ((env s').set b (some z)))) ∧ getS (env s') t = some y' ∧ R j y y' ∧ I (j + 1) s') (s : σ) (h0 : I 0 s) (hn : (env s).set t none = env s) :
    ∃ s' ds', ((lenO ((env s).set b (some (.lst .own ds))) b).bind fun n => loopOL body t b n n 0 ((env s).set b (some (.lst .own ds)))) = some (.nx (((env s').set t none).set b (some (.lst .own ds')))) ∧ ds'.length = ds.length ∧ (∀ j x y, ds'[j]? = some x → ds[j]? = some y → R j y x) ∧ I ds.length s' := by
  have hL : lenO ((env s).set b (some (.lst .own ds))) b = some ds.length := by
    unfold lenO
    rw [getS_set_eq (hb s)]
    rfl
  rw [hL]
  simp only [Option.bind_some]
  obtain ⟨s', ds', e, h⟩ := loopOL_st htb env ds I R hb ht step s [] h0 (by simp) ds rfl (by simp) (.inl (by rw [← hn, List.getElem?_set_self (ht s)]))
  rw [hn] at e
  exact ⟨s', ds', e, h⟩
/-! ### places by numbers -/
theorem get1_l (xs : List D) (n : Nat) : get1 (.lst .own xs) (n : Int) = xs[n]? := by
  simp only [get1, ownC, itemsD, if_true]
  by_cases h : n < xs.length
  · rw [ixN_ok _ _ h]; rfl
  · rw [List.getElem?_eq_none (by omega)]
    unfold ixN
    simp [h]
theorem get1_t (xs : List D) (n : Nat) : get1 (.tup xs) (n : Int) = xs[n]? := by
  simp only [get1, ownC, itemsD, if_true]
  by_cases h : n < xs.length
  · rw [ixN_ok _ _ h]; rfl
  · rw [List.getElem?_eq_none (by omega)]
    unfold ixN
    simp [h]
theorem put1_l (xs : List D) (n : Nat) (y : D) (h : n < xs.length) : put1 (.lst .own xs) (n : Int) y = some (.lst .own (xs.set n y)) := by
  simp only [put1, ownC, itemsD, if_true]
  rw [ixN_ok _ _ h]; rfl
theorem put1_t (xs : List D) (n : Nat) (y : D) (h : n < xs.length) : put1 (.tup xs) (n : Int) y = some (.tup (xs.set n y)) := by
  simp only [put1, ownC, itemsD, if_true]
  rw [ixN_ok _ _ h]; rfl
theorem get1_t1 (a b : D) : get1 (.tup [a, b]) 1 = some b := get1_t [a, b] 1
theorem put1_t1 (a b y : D) : put1 (.tup [a, b]) 1 y = some (.tup [a, y]) := put1_t [a, b] 1 y (by simp)
theorem get1_t0 (a b : D) : get1 (.tup [a, b]) 0 = some a := get1_t [a, b] 0
theorem put1_t0 (a b y : D) : put1 (.tup [a, b]) 0 y = some (.tup [y, b]) := put1_t [a, b] 0 y (by simp)
@[simp] theorem c_isb (a b : Bool) : cmpD .isN (.bl a) (.bl b) = some (decide (a = b)) := Eq.trans rfl rfl
@[simp] theorem c_notb (a b : Bool) : cmpD .notN (.bl a) (.bl b) = some (!decide (a = b)) := Eq.trans rfl rfl
theorem shares_set (xs : List D) (j : Nat) (d : D) : shares (xs.set j d) = (shares xs).set j (share d) := by
  rw [shares_eq, shares_eq, List.map_set]
end FL

/-! F27: while loops by a measure; loops that may return. -/
namespace FL
open PySem PySem.Spec PyProof.Rows L2
theorem whlN_ok {σ : Type} {cond : Env → Option (Bool × Env)} {body : Env → Option Flow} (env : σ → Env) (μ : σ → Nat) (I : σ → Prop) (c : σ → Bool)
    (hc : ∀ s, I s → cond (env s) = some (c s, env s)) (hb : ∀ s, I s → c s = true → ∃ s', body (env s) = some (.nx (env s')) ∧ I s' ∧ μ s' < μ s) :
    ∀ (n : Nat) (s : σ), I s → μ s < n → ∃ s', whlN cond body n (env s) = some (.nx (env s')) ∧ I s' ∧ c s' = false
  | 0, s, _, h => by omega
  | n + 1, s, hI, h => by
    have e1 := hc s hI
    cases hcs : c s with
    | false =>
      rw [hcs] at e1
      exact ⟨s, by unfold whlN; rw [e1]; rfl, hI, hcs⟩
    | true =>
      rw [hcs] at e1
      obtain ⟨s1, e2, hI1, hm⟩ := hb s hI hcs
      obtain ⟨s2, e3, hI2, h2⟩ := whlN_ok env μ I c hc hb n s1 hI1 (by omega)
      refine ⟨s2, ?_, hI2, h2⟩
      unfold whlN
      rw [e1]
      simp only [Option.bind_some, e2]
      exact e3
theorem whlD_ok {σ : Type} {cond : Env → Option (Bool × Env)} {body : Env → Option Flow} (env : σ → Env) (μ : σ → Nat) (I : σ → Prop) (c : σ → Bool)
    (hc : ∀ s, I s → cond (env s) = some (c s, env s)) (hb : ∀ s, I s → c s = true → ∃ s', body (env s) = some (.nx (env s')) ∧ I s' ∧ μ s' < μ s) (s : σ) (h : I s) :
    ∃ s', whlD cond body (env s) = some (.nx (env s')) ∧ I s' ∧ c s' = false := by
  obtain ⟨s', e, q⟩ := whlN_ok env μ I c hc hb (μ s + 1) s h (by omega)
  exact ⟨s', whlD_of e, q⟩
theorem forL_go {α σ : Type} {bind : D → Env → Option Env} {body : Env → Option Flow} (enc : α → D) (env : σ → Env) (I : List α → σ → Prop) (Q : D → Env → Prop)
    (step : ∀ a l s, I (a :: l) s → (∃ s', ((bind (enc a) (env s)).bind body = some (.nx (env s')) ∨ (bind (enc a) (env s)).bind body = some (.ct (env s'))) ∧ I l s') ∨ ∃ d ρ, (bind (enc a) (env s)).bind body = some (.rt d ρ) ∧ Q d ρ) :
    ∀ (l : List α) (s : σ), I l s → (∃ s', forL bind body (l.map enc) (env s) = some (.nx (env s')) ∧ I [] s') ∨ ∃ d ρ, forL bind body (l.map enc) (env s) = some (.rt d ρ) ∧ Q d ρ
  | [], s, h => .inl ⟨s, rfl, h⟩
  | a :: l, s, h => by
    rcases step a l s h with ⟨s', e, h'⟩ | ⟨d, ρ, e, q⟩
    · have go := forL_go enc env I Q step l s' h'
      rcases e with e | e
      · obtain ⟨ρ1, e1, e2⟩ := bnd e
        simp only [List.map_cons]
        unfold forL
        rw [e1]
        simp only [Option.bind_some, e2]
        exact go
      · obtain ⟨ρ1, e1, e2⟩ := bnd e
        simp only [List.map_cons]
        unfold forL
        rw [e1]
        simp only [Option.bind_some, e2]
        exact go
    · obtain ⟨ρ1, e1, e2⟩ := bnd e
      refine .inr ⟨d, ρ, ?_, q⟩
      simp only [List.map_cons]
      unfold forL
      rw [e1]
      simp only [Option.bind_some, e2]
/-- a loop that tests its items -/
theorem forL_all {α σ : Type} {bind : D → Env → Option Env} {body : Env → Option Flow} (enc : α → D) (env : σ → Env) (p : α → Bool) (r : D) (l : List α)
    (step : ∀ a ∈ l, ∀ s, (p a = true ∧ ∃ s', (bind (enc a) (env s)).bind body = some (.nx (env s'))) ∨ (p a = false ∧ ∃ ρ, (bind (enc a) (env s)).bind body = some (.rt r ρ))) (s : σ) :
    (l.all p = true ∧ ∃ s', forL bind body (l.map enc) (env s) = some (.nx (env s'))) ∨ (l.all p = false ∧ ∃ ρ, forL bind body (l.map enc) (env s) = some (.rt r ρ)) := by
  induction l generalizing s with
  | nil => exact .inl ⟨rfl, s, rfl⟩
  | cons a l ih =>
    rcases step a (by simp) s with ⟨hp, s', e⟩ | ⟨hp, ρ, e⟩
    · obtain ⟨ρ1, e1, e2⟩ := bnd e
      have go := ih (fun b hb => step b (by simp [hb])) s'
      have : (a :: l).all p = l.all p := by simp [hp]
      rw [this]
      have e3 : forL bind body ((a :: l).map enc) (env s) = forL bind body (l.map enc) (env s') := by
        simp only [List.map_cons]
        conv => lhs; unfold forL
        rw [e1]
        simp only [Option.bind_some, e2]
      rw [e3]
      exact go
    · obtain ⟨ρ1, e1, e2⟩ := bnd e
      refine .inr ⟨by simp [hp], ρ, ?_⟩
      simp only [List.map_cons]
      unfold forL
      rw [e1]
      simp only [Option.bind_some, e2]
theorem forL_nx {bind : D → Env → Option Env} {body : Env → Option Flow} {d : D} {ds : List D} {ρ ρ2 : Env} (h : (bind d ρ).bind body = some (.nx ρ2)) : forL bind body (d :: ds) ρ = forL bind body ds ρ2 := by
  obtain ⟨ρ1, e1, e2⟩ := bnd h
  conv => lhs; unfold forL
  rw [e1]
  simp only [Option.bind_some, e2]
noncomputable def rng2O : D → D → Option (List D)
  | .int i, .int j => @ite _ (-(2 ^ 62) ≤ i ∧ i < 2 ^ 62 ∧ -(2 ^ 62) ≤ j ∧ j < 2 ^ 62) (Classical.propDecidable _) (some (rngL i (j - i).toNat)) none
  | _, _ => none
@[simp] theorem it_rng2s (Γ : Ctx) (ρ : Env) (a b : E) : evIt Γ (.rng2 a b) ρ = (evE Γ a ρ).bind fun p => (evE Γ b p.2).bind fun q => (rng2O p.1 q.1).map fun xs => (xs, q.2) := by
  simp only [evIt]; congr 1; funext p; congr 1; funext q; obtain ⟨d, r⟩ := p; obtain ⟨d', r'⟩ := q
  cases d <;> try rfl
  cases d' <;> try rfl
  simp only [rng2O]
  split <;> rfl
theorem rng2O_nat (i j : Nat) (hi : i ≤ 1000000) (hj : j ≤ 1000000) : rng2O (.int (i : Int)) (.int (j : Int)) = some (rngL (i : Int) (j - i)) := by
  unfold rng2O
  simp only
  rw [if_pos (by omega)]
  congr 2
  omega
end FL

/-! F28: comprehensions whose environment need not be written down. -/
namespace FL
open PySem PySem.Spec PyProof.Rows L2
theorem set_none {ρ : Env} {i : Nat} {x : Option D} (hi : ρ[i]? = some none) : (ρ.set i x).set i none = ρ := by
  rw [List.set_set]
  apply List.ext_getElem?
  intro j
  by_cases e : i = j
  · subst e; rw [List.getElem?_set_self (List.getElem?_eq_some_iff.mp hi).1, hi]
  · rw [List.getElem?_set_ne e]
/-- a comprehension over coded items by one name: what an item gives, the name's slot set -/
theorem comp1 {α : Type} {Γ : Ctx} {e : E} {ρ : Env} {i : Nat} (hi : ρ[i]? = some none) (enc res : α → D) (l : List α) (hz : l.length ≤ SZ)
    (h : ∀ a ∈ l, ∃ y, evE Γ e (ρ.set i (some (enc a))) = some (res a, ρ.set i y)) : compL (bindT (.name i)) (evC Γ .no) (evE Γ e) [i] (l.map enc) ρ [] = some (l.map res, ρ) := by
  have hl := (List.getElem?_eq_some_iff.mp hi).1
  have key := compL_mapT (bind := bindT (.name i)) (cond := evC Γ .no) (elt := evE Γ e) (vs := [i]) (ρ := ρ) enc res l (acc := []) (fun a ha => by
    obtain ⟨y, ey⟩ := h a ha
    refine ⟨ρ.set i y, ?_, by simp only [wipeD]; exact set_none hi⟩
    have : bindT (.name i) (enc a) ρ = some (ρ.set i (some (enc a))) := by
      show putS ρ i (enc a) = _
      unfold putS; rw [if_pos hl]
    rw [this]
    simp [ey]) (by simpa using hz)
  rw [List.nil_append] at key
  exact key
theorem comp_copy (Γ : Ctx) (ρ : Env) (i : Nat) (f : Fl) (rows : List (List Int)) (hi : ρ[i]? = some none) (hz : rows.length ≤ SZ) :
    compL (bindT (.name i)) (evC Γ .no) (evE Γ (.blt .list (.cons (.var i) .nil))) [i] (rows.map (eRow f)) ρ [] = some (rows.map (eRow .own), ρ) := by
  have hl := (List.getElem?_eq_some_iff.mp hi).1
  refine comp1 hi (eRow f) (eRow .own) rows hz fun r hr => ⟨some (eRow f.sh r), ?_⟩
  have : getS (ρ.set i (some (eRow f r))) i = some (eRow f r) := getS_set_eq hl
  simp only [eRow] at *
  simp [this, shares_ints]
end FL

/-! LA1: determinants of rows at columns; what they vanish at. -/
namespace LA
abbrev Vec := Nat → Int
def ex (f : Vec → List Vec → Int) : List Vec → Int
  | [] => 0
  | x :: rows => f x rows - ex (fun y r => f y (x :: r)) rows
def det : List Nat → List Vec → Int
  | [], rows => if rows.isEmpty then 1 else 0
  | c :: cs, rows => ex (fun x r => x c * det cs r) rows
theorem ex_nil (f) : ex f [] = 0 := rfl
theorem ex_cons (f x rows) : ex f (x :: rows) = f x rows - ex (fun y r => f y (x :: r)) rows := rfl
theorem det_nil_nil : det [] [] = 1 := rfl
theorem det_nil_cons (x : Vec) (rows) : det [] (x :: rows) = 0 := rfl
theorem det_cons (c cs rows) : det (c :: cs) rows = ex (fun x r => x c * det cs r) rows := rfl
theorem ex_congr {f g : Vec → List Vec → Int} : ∀ {rows}, (∀ x r, f x r = g x r) → ex f rows = ex g rows := by
  intro rows h
  have : f = g := funext fun x => funext fun r => h x r
  rw [this]
theorem ex_neg (f : Vec → List Vec → Int) (rows) : ex (fun x r => - f x r) rows = - ex f rows := by
  induction rows generalizing f with
  | nil => rfl
  | cons x rows ih => simp only [ex_cons]; rw [ih (fun y r => f y (x :: r))]; omega
theorem ex_add (f g : Vec → List Vec → Int) (rows) : ex (fun x r => f x r + g x r) rows = ex f rows + ex g rows := by
  induction rows generalizing f g with
  | nil => rfl
  | cons x rows ih => simp only [ex_cons]; rw [ih (fun y r => f y (x :: r)) (fun y r => g y (x :: r))]; omega
theorem ex_mul (k : Int) (f : Vec → List Vec → Int) (rows) : ex (fun x r => k * f x r) rows = k * ex f rows := by
  induction rows generalizing f with
  | nil => simp [ex_nil]
  | cons x rows ih => simp only [ex_cons]; rw [ih (fun y r => f y (x :: r)), Int.mul_sub]
theorem ex_zero {f : Vec → List Vec → Int} {rows} (h : ∀ x r, f x r = 0) : ex f rows = 0 := by
  have e := ex_mul 0 f rows
  rw [← ex_congr (f := f) (g := fun x r => 0 * f x r) (fun x r => by rw [h]; simp)] at e
  simpa using e
/-- .. where every picked pair is one of the rows' -/
theorem ex_zero' {f : Vec → List Vec → Int} : ∀ {rows}, (∀ a x b, rows = a ++ x :: b → f x (a ++ b) = 0) → ex f rows = 0 := by
  intro rows
  induction rows generalizing f with
  | nil => intro _; rfl
  | cons y rows ih =>
    intro h
    have h0 : f y rows = 0 := h [] y rows rfl
    rw [ex_cons, h0, ih (f := fun z r => f z (y :: r)) (fun a x b e => h (y :: a) x b (by rw [e]; rfl))]
    rfl
/-! columns -/
theorem swap_aux (a b : Nat) (g : List Vec → Int) (rows) :
    ex (fun x r => x a * ex (fun y s => y b * g s) r) rows = - ex (fun x r => x b * ex (fun y s => y a * g s) r) rows := by
  induction rows generalizing g with
  | nil => rfl
  | cons x rows ih =>
    have key : ∀ a b : Nat, ex (fun y r => y a * ex (fun z s => z b * g s) (x :: r)) rows = x b * ex (fun y s => y a * g s) rows - ex (fun y r => y a * ex (fun z s => z b * g (x :: s)) r) rows := by
      intro a b
      rw [← ex_mul]
      have : ∀ f1 f2 : Vec → List Vec → Int, ex f1 rows - ex f2 rows = ex (fun y r => f1 y r + - f2 y r) rows := by
        intro f1 f2; rw [ex_add, ex_neg]; omega
      rw [this]
      apply ex_congr
      intro y r
      rw [ex_cons, Int.mul_sub, Int.sub_eq_add_neg]
      congr 1
      rw [← Int.mul_assoc, ← Int.mul_assoc, Int.mul_comm (y a)]
    simp only [ex_cons]
    simp only [ex_cons] at key
    rw [key a b, key b a, ih (fun s => g (x :: s))]
    omega
theorem det_swap_col (a b : Nat) (cs rows) : det (a :: b :: cs) rows = - det (b :: a :: cs) rows := by
  simp only [det_cons]
  exact swap_aux a b (det cs) rows
theorem det_dup_col {j : Nat} : ∀ {cs : List Nat} {rows}, j ∈ cs → det (j :: cs) rows = 0
  | [], _, h => by simp at h
  | c :: cs, rows, h => by
    by_cases e : j = c
    · subst e
      have := det_swap_col j j cs rows
      omega
    · have h' : j ∈ cs := by
        rcases List.mem_cons.mp h with h | h
        · exact absurd h e
        · exact h
      rw [det_swap_col, det_cons, ex_zero (fun x r => by rw [det_dup_col h']; simp)]
      rfl
/-! rows -/
theorem ex_swap {x y : Vec} {f : Vec → List Vec → Int} (hf : ∀ z a b, f z (a ++ x :: y :: b) = - f z (a ++ y :: x :: b)) (a b : List Vec) : ex f (a ++ x :: y :: b) = - ex f (a ++ y :: x :: b) := by
  induction a generalizing f with
  | nil =>
    simp only [List.nil_append, ex_cons]
    have : ex (fun z r => f z (x :: y :: r)) b = - ex (fun z r => f z (y :: x :: r)) b := by
      rw [← ex_neg]; exact ex_congr fun z r => hf z [] r
    rw [this]; omega
  | cons p a ih =>
    simp only [List.cons_append, ex_cons]
    rw [ih (f := fun z r => f z (p :: r)) (fun z a b => hf z (p :: a) b), hf p a b]
    omega
theorem det_swap_row {x y : Vec} : ∀ (cs : List Nat) (a b : List Vec), det cs (a ++ x :: y :: b) = - det cs (a ++ y :: x :: b)
  | [], a, b => by cases a <;> rfl
  | c :: cs, a, b => by
    simp only [det_cons]
    exact ex_swap (f := fun z r => z c * det cs r) (fun z a b => by rw [det_swap_row cs a b, Int.mul_neg]) a b
theorem det_dup_row {x : Vec} (cs : List Nat) (a c : List Vec) : ∀ (n : Nat) (b : List Vec), b.length = n → det cs (a ++ x :: (b ++ x :: c)) = 0
  | 0, b, h => by
    cases b with
    | nil => have := det_swap_row (x := x) (y := x) cs a c; show det cs (a ++ x :: x :: c) = 0; omega
    | cons _ _ => simp at h
  | n + 1, b, h => by
    rcases List.eq_nil_or_concat b with rfl | ⟨b', y, rfl⟩
    · simp at h
    · have e : a ++ x :: (b'.concat y ++ x :: c) = (a ++ x :: b') ++ y :: x :: c := by simp
      rw [e, det_swap_row]
      have e2 : (a ++ x :: b') ++ x :: y :: c = a ++ x :: (b' ++ x :: (y :: c)) := by simp
      rw [e2, det_dup_row cs a (y :: c) n b' (by simpa using h)]
      rfl
theorem det_mem {x : Vec} {cs : List Nat} {rows : List Vec} (h : x ∈ rows) : det cs (x :: rows) = 0 := by
  obtain ⟨b, c, rfl⟩ := List.append_of_mem h
  exact det_dup_row cs [] c _ b rfl
/-- moving a row to the front -/
theorem det_front (cs : List Nat) (x : Vec) : ∀ (n : Nat) (a b : List Vec), a.length = n → det cs (a ++ x :: b) = det cs (x :: (a ++ b)) ∨ det cs (a ++ x :: b) = - det cs (x :: (a ++ b))
  | 0, a, b, h => by
    cases a with
    | nil => exact .inl rfl
    | cons _ _ => simp at h
  | n + 1, a, b, h => by
    rcases List.eq_nil_or_concat a with rfl | ⟨a', y, rfl⟩
    · simp at h
    · have e : a'.concat y ++ x :: b = a' ++ y :: x :: b := by simp
      have e2 : a'.concat y ++ b = a' ++ y :: b := by simp
      rw [e, e2, det_swap_row]
      rcases det_front cs x n a' (y :: b) (by simpa using h) with q | q <;> rw [q] <;> omega
/-! linear in the first row -/
def vadd (u v : Vec) : Vec := fun j => u j + v j
def vmul (k : Int) (u : Vec) : Vec := fun j => k * u j
def vzero : Vec := fun _ => 0
theorem det_add : ∀ (cs : List Nat) (u v : Vec) (rows), det cs (vadd u v :: rows) = det cs (u :: rows) + det cs (v :: rows)
  | [], u, v, rows => by simp [det_nil_cons]
  | c :: cs, u, v, rows => by
    simp only [det_cons, ex_cons]
    have : ex (fun y r => y c * det cs (vadd u v :: r)) rows = ex (fun y r => y c * det cs (u :: r)) rows + ex (fun y r => y c * det cs (v :: r)) rows := by
      rw [← ex_add]; exact ex_congr fun y r => by rw [det_add cs, Int.mul_add]
    rw [this]
    simp only [vadd, Int.add_mul]
    omega
theorem det_smul : ∀ (cs : List Nat) (k : Int) (u : Vec) (rows), det cs (vmul k u :: rows) = k * det cs (u :: rows)
  | [], k, u, rows => by simp [det_nil_cons]
  | c :: cs, k, u, rows => by
    simp only [det_cons, ex_cons]
    have : ex (fun y r => y c * det cs (vmul k u :: r)) rows = k * ex (fun y r => y c * det cs (u :: r)) rows := by
      rw [← ex_mul]; exact ex_congr fun y r => by rw [det_smul cs, ← Int.mul_assoc, ← Int.mul_assoc, Int.mul_comm (y c)]
    rw [this]
    simp only [vmul, Int.mul_sub, Int.mul_assoc]
theorem det_vanish {u : Vec} : ∀ {cs : List Nat} {rows}, (∀ c ∈ cs, u c = 0) → det cs (u :: rows) = 0
  | [], rows, _ => rfl
  | c :: cs, rows, h => by
    rw [det_cons, ex_cons, h c (by simp), ex_zero (fun y r => by rw [det_vanish (cs := cs) (fun c hc => h c (by simp [hc]))]; simp)]
    simp
/-- the bordered rows -/
def bord (cs : List Nat) (rows : List Vec) (u : Vec) : Vec := fun j => det (j :: cs) (u :: rows)
theorem bord_at {cs : List Nat} {rows : List Vec} {u : Vec} {c : Nat} (h : c ∈ cs) : bord cs rows u c = 0 := det_dup_col h
theorem bord_eq (cs : List Nat) (rows : List Vec) (u : Vec) (j : Nat) : bord cs rows u j = u j * det cs rows - ex (fun y r => y j * det cs (u :: r)) rows := rfl
theorem bord_van {cs : List Nat} {rows : List Vec} {u : Vec} (h : ∀ c ∈ cs, u c = 0) (j : Nat) : bord cs rows u j = u j * det cs rows := by
  rw [bord_eq, ex_zero (fun y r => by rw [det_vanish h]; simp)]
  omega
/-! sizes -/
def fact : Nat → Nat
  | 0 => 1
  | n + 1 => (n + 1) * fact n
theorem ex_le {f : Vec → List Vec → Int} {m : Nat} : ∀ {rows : List Vec}, (∀ a x b, rows = a ++ x :: b → (f x (a ++ b)).natAbs ≤ m) → (ex f rows).natAbs ≤ rows.length * m := by
  intro rows
  induction rows generalizing f with
  | nil => intro _; simp [ex_nil]
  | cons y rows ih =>
    intro h
    have h1 := h [] y rows rfl
    have h2 := ih (f := fun z r => f z (y :: r)) (fun a x b e => h (y :: a) x b (by rw [e]; rfl))
    rw [ex_cons, List.length_cons, Nat.add_mul, Nat.one_mul]
    have := Int.natAbs_sub_le (f y rows) (ex (fun z r => f z (y :: r)) rows)
    simp only [List.nil_append] at h1
    omega
theorem det_le {B : Nat} : ∀ {cs : List Nat} {rows : List Vec}, rows.length = cs.length → (∀ r ∈ rows, ∀ c ∈ cs, (r c).natAbs ≤ B) → (det cs rows).natAbs ≤ fact cs.length * B ^ cs.length
  | [], rows, hl, _ => by
    cases rows with
    | nil => simp [det_nil_nil, fact]
    | cons _ _ => simp at hl
  | c :: cs, rows, hl, h => by
    have := ex_le (f := fun x r => x c * det cs r) (m := B * (fact cs.length * B ^ cs.length)) (rows := rows) (fun a x b e => by
      have hx : (x c).natAbs ≤ B := h x (by rw [e]; simp) c (by simp)
      have hd := det_le (B := B) (cs := cs) (rows := a ++ b) (by rw [e] at hl; simp at hl ⊢; omega) (fun r hr c' hc' => h r (by rw [e]; simp at hr ⊢; rcases hr with hr | hr <;> simp [hr]) c' (by simp [hc']))
      rw [Int.natAbs_mul]
      exact Nat.mul_le_mul hx hd)
    rw [det_cons]
    refine Nat.le_trans this ?_
    rw [hl, List.length_cons, fact, Nat.pow_succ, Nat.mul_assoc, Nat.mul_comm B, Nat.mul_assoc]
    exact Nat.le_refl _
end LA

/-! LA2: spans, leading places, rank. -/
namespace LA
theorem vext {u v : Vec} (h : ∀ j, u j = v j) : u = v := funext h
inductive Sp (R : Vec → Prop) : Vec → Prop
  | zero : Sp R vzero
  | mem {u : Vec} : R u → Sp R u
  | add {u v : Vec} : Sp R u → Sp R v → Sp R (vadd u v)
  | smul {u : Vec} (k : Int) : Sp R u → Sp R (vmul k u)
  | div {u : Vec} {k : Int} : k ≠ 0 → Sp R (vmul k u) → Sp R u
theorem Sp.trans {R R' : Vec → Prop} (h : ∀ r, R r → Sp R' r) {u : Vec} (hu : Sp R u) : Sp R' u := by
  induction hu with
  | zero => exact .zero
  | mem h' => exact h _ h'
  | add _ _ a b => exact .add a b
  | smul k _ a => exact .smul k a
  | div hk _ a => exact .div hk a
theorem Sp.mono {R R' : Vec → Prop} (h : ∀ r, R r → R' r) {u : Vec} (hu : Sp R u) : Sp R' u := hu.trans fun r hr => .mem (h r hr)
theorem Sp.cg {R : Vec → Prop} {u v : Vec} (h : ∀ j, u j = v j) (hu : Sp R u) : Sp R v := by rw [← vext h]; exact hu
theorem Sp.sub {R : Vec → Prop} {u v : Vec} (a b : Int) (hu : Sp R u) (hv : Sp R v) : Sp R (fun j => a * u j - b * v j) :=
  ((Sp.smul a hu).add (Sp.smul (-b) hv)).cg fun j => by simp only [vadd, vmul, Int.neg_mul]; omega
/-- the span of a list -/
abbrev Sl (bs : List Vec) : Vec → Prop := Sp (· ∈ bs)
theorem Sl_mono {bs bs' : List Vec} (h : ∀ b ∈ bs, Sl bs' b) {u : Vec} (hu : Sl bs u) : Sl bs' u := hu.trans h
/-- a form of vectors: linear -/
structure Lin (L : Vec → Int) : Prop where
  add : ∀ u v, L (vadd u v) = L u + L v
  smul : ∀ k u, L (vmul k u) = k * L u
theorem Lin.zero {L : Vec → Int} (h : Lin L) : L vzero = 0 := by
  have := h.smul 0 vzero
  rw [show vmul 0 vzero = vzero from vext fun j => by simp [vmul, vzero]] at this
  simpa using this
theorem Lin.van {L : Vec → Int} (h : Lin L) {R : Vec → Prop} (hr : ∀ r, R r → L r = 0) {u : Vec} (hu : Sp R u) : L u = 0 := by
  induction hu with
  | zero => exact h.zero
  | mem h' => exact hr _ h'
  | add _ _ a b => rw [h.add, a, b]; rfl
  | smul k _ a => rw [h.smul, a]; simp
  | div hk _ a =>
    rw [h.smul] at a
    rcases Int.mul_eq_zero.mp a with a | a
    · exact absurd a hk
    · exact a
theorem lin_at (j : Nat) : Lin (fun u => u j) := ⟨fun _ _ => rfl, fun _ _ => rfl⟩
theorem lin_det (cs : List Nat) (rows : List Vec) : Lin (fun u => det cs (u :: rows)) := ⟨fun u v => det_add cs u v rows, fun k u => det_smul cs k u rows⟩
/-- one row taken out -/
theorem Sp_cons {x : Vec} {bs : List Vec} {u : Vec} (h : Sl (x :: bs) u) : ∃ (k a : Int) (v : Vec), k ≠ 0 ∧ Sl bs v ∧ ∀ j, k * u j = a * x j + v j := by
  induction h with
  | zero => exact ⟨1, 0, vzero, by decide, .zero, fun j => by simp [vzero]⟩
  | @mem u h' =>
    rcases List.mem_cons.mp h' with rfl | h'
    · exact ⟨1, 1, vzero, by decide, .zero, fun j => by simp [vzero]⟩
    · exact ⟨1, 0, u, by decide, .mem h', fun j => by simp⟩
  | @add u v _ _ h1 h2 =>
    obtain ⟨k1, a1, v1, n1, s1, e1⟩ := h1
    obtain ⟨k2, a2, v2, n2, s2, e2⟩ := h2
    refine ⟨k1 * k2, k2 * a1 + k1 * a2, vadd (vmul k2 v1) (vmul k1 v2), Int.mul_ne_zero n1 n2, .add (.smul _ s1) (.smul _ s2), fun j => ?_⟩
    have q1 := e1 j
    have q2 := e2 j
    show k1 * k2 * (u j + v j) = (k2 * a1 + k1 * a2) * x j + (k2 * v1 j + k1 * v2 j)
    have r1 : k2 * (k1 * u j) = k2 * (a1 * x j + v1 j) := by rw [q1]
    have r2 : k1 * (k2 * v j) = k1 * (a2 * x j + v2 j) := by rw [q2]
    simp only [Int.mul_add, Int.add_mul, Int.mul_assoc] at *
    rw [Int.mul_left_comm k1 k2 (u j), r1, r2]
    omega
  | @smul u k _ h1 =>
    obtain ⟨k1, a1, v1, n1, s1, e1⟩ := h1
    refine ⟨k1, k * a1, vmul k v1, n1, .smul _ s1, fun j => ?_⟩
    show k1 * (k * u j) = k * a1 * x j + k * v1 j
    rw [Int.mul_left_comm, e1 j, Int.mul_add, Int.mul_assoc]
  | @div u k hk _ h1 =>
    obtain ⟨k1, a1, v1, n1, s1, e1⟩ := h1
    refine ⟨k1 * k, a1, v1, Int.mul_ne_zero n1 hk, s1, fun j => ?_⟩
    rw [← e1 j, Int.mul_assoc]
    rfl
theorem Sl_nil {u : Vec} (h : Sl [] u) (j : Nat) : u j = 0 := (lin_at j).van (R := (· ∈ ([] : List Vec))) (fun r hr => by simp at hr) h
/-! ### leading places -/
def Lead (u : Vec) (p : Nat) : Prop := u p ≠ 0 ∧ ∀ j < p, u j = 0
theorem Lead.uniq {u : Vec} {p q : Nat} (h : Lead u p) (g : Lead u q) : p = q := by
  rcases Nat.lt_trichotomy p q with l | l | l
  · exact absurd (g.2 p l) h.1
  · exact l
  · exact absurd (h.2 q l) g.1
inductive Ech : List Vec → List Nat → Prop
  | nil : Ech [] []
  | cons {x : Vec} {p : Nat} {bs : List Vec} {ps : List Nat} : Lead x p → (∀ q ∈ ps, p < q) → Ech bs ps → Ech (x :: bs) (p :: ps)
theorem Ech.length {bs : List Vec} {ps : List Nat} (h : Ech bs ps) : bs.length = ps.length := by
  induction h with
  | nil => rfl
  | cons _ _ _ ih => simp [ih]
theorem Ech.mem {bs : List Vec} {ps : List Nat} (h : Ech bs ps) : ∀ b ∈ bs, ∃ p ∈ ps, Lead b p := by
  induction h with
  | nil => intro b hb; simp at hb
  | cons l _ _ ih =>
    intro b hb
    rcases List.mem_cons.mp hb with rfl | hb
    · exact ⟨_, by simp, l⟩
    · obtain ⟨p, hp, q⟩ := ih b hb
      exact ⟨p, by simp [hp], q⟩
theorem Ech.mem' {bs : List Vec} {ps : List Nat} (h : Ech bs ps) : ∀ p ∈ ps, ∃ b ∈ bs, Lead b p := by
  induction h with
  | nil => intro b hb; simp at hb
  | cons l _ _ ih =>
    intro b hb
    rcases List.mem_cons.mp hb with rfl | hb
    · exact ⟨_, by simp, l⟩
    · obtain ⟨p, hp, q⟩ := ih b hb
      exact ⟨p, by simp [hp], q⟩
theorem Ech.zeros {bs : List Vec} {ps : List Nat} (h : Ech bs ps) {p : Nat} (hp : ∀ q ∈ ps, p < q) {u : Vec} (hu : Sl bs u) : u p = 0 :=
  (lin_at p).van (fun r hr => by obtain ⟨q, hq, l⟩ := h.mem r hr; exact l.2 p (hp q hq)) hu
theorem Ech.lead {bs : List Vec} {ps : List Nat} (h : Ech bs ps) : ∀ {u : Vec}, Sl bs u → (∀ j, u j = 0) ∨ ∃ p ∈ ps, Lead u p := by
  induction h with
  | nil => intro u hu; exact .inl (Sl_nil hu)
  | @cons x p bs ps l a e ih =>
    intro u hu
    obtain ⟨k, c, v, hk, hv, q⟩ := Sp_cons hu
    by_cases hc : c = 0
    · subst hc
      have q' : ∀ j, k * u j = v j := fun j => by rw [q j]; omega
      rcases ih hv with z | ⟨p', hp, l'⟩
      · refine .inl fun j => ?_
        have := q' j
        rw [z j] at this
        rcases Int.mul_eq_zero.mp this with t | t
        · exact absurd t hk
        · exact t
      · refine .inr ⟨p', by simp [hp], fun t => l'.1 (by rw [← q', t]; simp), fun j hj => ?_⟩
        have := q' j
        rw [l'.2 j hj] at this
        rcases Int.mul_eq_zero.mp this with t | t
        · exact absurd t hk
        · exact t
    · refine .inr ⟨p, by simp, fun t => ?_, fun j hj => ?_⟩
      · have := q p
        rw [t, e.zeros a hv] at this
        have : c * x p = 0 := by simpa using this.symm
        rcases Int.mul_eq_zero.mp this with t | t
        · exact hc t
        · exact l.1 t
      · have h0 : v j = 0 := e.zeros (p := j) (fun q hq => Nat.lt_trans hj (a q hq)) hv
        have := q j
        rw [h0, l.2 j hj] at this
        have : k * u j = 0 := by simpa using this
        rcases Int.mul_eq_zero.mp this with t | t
        · exact absurd t hk
        · exact t
theorem Ech.zero {bs : List Vec} {ps : List Nat} (h : Ech bs ps) {u : Vec} (hu : Sl bs u) (hz : ∀ p ∈ ps, u p = 0) (j : Nat) : u j = 0 := by
  rcases h.lead hu with q | ⟨p, hp, l⟩
  · exact q j
  · exact absurd (hz p hp) l.1
theorem Ech.asc {bs : List Vec} {ps : List Nat} (h : Ech bs ps) : ps.Pairwise (· < ·) := by
  induction h with
  | nil => exact .nil
  | cons _ a _ ih => exact .cons a ih
theorem asc_eq : ∀ {ps qs : List Nat}, ps.Pairwise (· < ·) → qs.Pairwise (· < ·) → (∀ x, x ∈ ps ↔ x ∈ qs) → ps = qs
  | [], [], _, _, _ => rfl
  | [], q :: qs, _, _, h => by have := (h q).mpr (by simp); simp at this
  | p :: ps, [], _, _, h => by have := (h p).mp (by simp); simp at this
  | p :: ps, q :: qs, h1, h2, h => by
    cases h1 with
    | cons a1 r1 =>
    cases h2 with
    | cons a2 r2 =>
      have e : p = q := by
        rcases List.mem_cons.mp ((h p).mp (by simp)) with t | t
        · exact t
        · have := a2 p t
          rcases List.mem_cons.mp ((h q).mpr (by simp)) with t' | t'
          · exact t'.symm
          · have := a1 q t'; omega
      subst e
      rw [asc_eq r1 r2 fun x => ?_]
      constructor
      · intro hx
        have := a1 x hx
        rcases List.mem_cons.mp ((h x).mp (by simp [hx])) with t | t
        · omega
        · exact t
      · intro hx
        have := a2 x hx
        rcases List.mem_cons.mp ((h x).mpr (by simp [hx])) with t | t
        · omega
        · exact t
theorem Ech.same {bs bs' : List Vec} {ps ps' : List Nat} (h : Ech bs ps) (h' : Ech bs' ps') (s : ∀ u, Sl bs u ↔ Sl bs' u) : ps = ps' := by
  apply asc_eq h.asc h'.asc
  intro p
  constructor
  · intro hp
    obtain ⟨b, hb, l⟩ := h.mem' p hp
    rcases h'.lead ((s b).mp (.mem hb)) with z | ⟨p', hp', l'⟩
    · exact absurd (z p) l.1
    · rw [l.uniq l']; exact hp'
  · intro hp
    obtain ⟨b, hb, l⟩ := h'.mem' p hp
    rcases h.lead ((s b).mpr (.mem hb)) with z | ⟨p', hp', l'⟩
    · exact absurd (z p) l.1
    · rw [l.uniq l']; exact hp'
/-- no more leading places than in a greater space -/
theorem Ech.sub {bs bs' : List Vec} {ps ps' : List Nat} (h : Ech bs ps) (h' : Ech bs' ps') (s : ∀ b ∈ bs, Sl bs' b) : ∀ p ∈ ps, p ∈ ps' := by
  intro p hp
  obtain ⟨b, hb, l⟩ := h.mem' p hp
  rcases h'.lead (s b hb) with z | ⟨p', hp', l'⟩
  · exact absurd (z p) l.1
  · rw [l.uniq l']; exact hp'
theorem asc_len : ∀ {ps qs : List Nat}, ps.Pairwise (· < ·) → (∀ x ∈ ps, x ∈ qs) → ps.length ≤ qs.length
  | [], qs, _, _ => by simp
  | p :: ps, qs, h, s => by
    cases h with
    | cons a r =>
      have hp := s p (by simp)
      have := asc_len (ps := ps) (qs := qs.erase p) r (fun x hx => by
        have := a x hx
        exact (List.mem_erase_of_ne (by omega)).mpr (s x (by simp [hx])))
      rw [List.length_erase_of_mem hp] at this
      have : 0 < qs.length := List.length_pos_of_mem hp
      simp only [List.length_cons]
      omega
/-- the same number of leading places in a subspace: the same space -/
theorem asc_full {ps qs : List Nat} (h : ps.Pairwise (· < ·)) (g : qs.Pairwise (· < ·)) (s : ∀ x ∈ ps, x ∈ qs) (l : qs.length ≤ ps.length) : ps = qs := by
  apply asc_eq h g
  intro x
  refine ⟨s x, fun hx => ?_⟩
  refine Classical.byContradiction fun hn => ?_
  have := asc_len (qs := qs.erase x) h (fun y hy => (List.mem_erase_of_ne (fun e => hn (by rw [← e]; exact hy))).mpr (s y hy))
  rw [List.length_erase_of_mem hx] at this
  have : 0 < qs.length := List.length_pos_of_mem hx
  omega
/-- a vector minus a multiple of a row, to clear a place -/
theorem Ech.full {bs bs' : List Vec} {ps : List Nat} (h : Ech bs ps) (h' : Ech bs' ps) (s : ∀ b ∈ bs, Sl bs' b) : ∀ u, Sl bs' u → Sl bs u := by
  induction h generalizing bs' with
  | nil =>
    intro u hu
    rcases h'.lead hu with z | ⟨p, hp, _⟩
    · exact Sp.zero.cg fun j => (z j).symm
    · simp at hp
  | @cons x p bs ps l a e ih =>
    cases h' with
    | @cons x' _ bs' _ l' a' e' =>
      -- the rest of bs lies in the rest of bs'
      have hs : ∀ b ∈ bs, Sl bs' b := by
        intro b hb
        obtain ⟨k, c, v, hk, hv, q⟩ := Sp_cons (s b (by simp [hb]))
        have z1 : v p = 0 := e'.zeros a' hv
        have z2 : b p = 0 := by
          obtain ⟨q', hq, lq⟩ := e.mem b hb
          exact lq.2 p (a q' hq)
        have : c = 0 := by
          have := q p
          rw [z1, z2] at this
          have : c * x' p = 0 := by simpa using this.symm
          rcases Int.mul_eq_zero.mp this with t | t
          · exact t
          · exact absurd t l'.1
        subst this
        exact .div hk (hv.cg fun j => by have := q j; simp only [vmul]; omega)
      have hr := ih e' hs
      have hx : Sl (x' :: bs') x := s x (by simp)
      obtain ⟨k, c, v, hk, hv, q⟩ := Sp_cons hx
      have hc : c ≠ 0 := by
        intro t
        subst t
        have := q p
        rw [e'.zeros a' hv] at this
        have : k * x p = 0 := by simpa using this
        rcases Int.mul_eq_zero.mp this with t | t
        · exact hk t
        · exact l.1 t
      intro u hu
      refine hu.trans fun r hr' => ?_
      rcases List.mem_cons.mp hr' with rfl | hr'
      · have h1 : Sl (x :: bs) x := .mem (by simp)
        have h2 : Sl (x :: bs) v := (hr v hv).mono fun r hr => by simp [hr]
        exact .div hc ((Sp.sub k 1 h1 h2).cg fun j => by have := q j; simp only [vmul]; omega)
      · exact (hr r (.mem hr')).mono fun r hr => by simp [hr]
/-! ### minors -/
theorem pigeon : ∀ (bs pre : List Vec), (∀ x ∈ pre, x ∈ bs) → bs.length < pre.length → ∃ a x b c, pre = a ++ x :: (b ++ x :: c)
  | bs, [], _, h => by simp at h
  | bs, x :: pre, hm, hl => by
    by_cases hx : x ∈ pre
    · obtain ⟨b, c, rfl⟩ := List.append_of_mem hx
      exact ⟨[], x, b, c, rfl⟩
    · obtain ⟨b1, b2, rfl⟩ := List.append_of_mem (hm x (by simp))
      obtain ⟨a, y, b, c, e⟩ := pigeon (b1 ++ b2) pre (fun y hy => by
        have := hm y (by simp [hy])
        simp only [List.mem_append, List.mem_cons] at this ⊢
        rcases this with t | t | t
        · exact .inl t
        · subst t; exact absurd hy hx
        · exact .inr t) (by simp at hl ⊢; omega)
      exact ⟨x :: a, y, b, c, by rw [e]; rfl⟩
theorem det_multi {R : Vec → Prop} {cs : List Nat} {n : Nat} (h : ∀ pre : List Vec, (∀ x ∈ pre, R x) → pre.length = n → det cs pre = 0) :
    ∀ us pre : List Vec, (∀ u ∈ us, Sp R u) → (∀ x ∈ pre, R x) → us.length + pre.length = n → det cs (us ++ pre) = 0
  | [], pre, _, hp, hl => h pre hp (by simpa using hl)
  | u :: us, pre, hu, hp, hl => by
    refine (lin_det cs (us ++ pre)).van (fun r hr => ?_) (hu u (by simp))
    have := det_multi h us (r :: pre) (fun v hv => hu v (by simp [hv])) (fun x hx => by rcases List.mem_cons.mp hx with rfl | hx; exact hr; exact hp x hx) (by simp at hl ⊢; omega)
    rcases det_front cs r _ us pre rfl with q | q <;> (rw [q] at this; show det cs (r :: (us ++ pre)) = 0; omega)
theorem det_rank {bs us : List Vec} {cs : List Nat} (hu : ∀ u ∈ us, Sl bs u) (hl : bs.length < us.length) : det cs us = 0 := by
  have := det_multi (R := (· ∈ bs)) (cs := cs) (n := us.length) (fun pre hp hn => by
    obtain ⟨a, x, b, c, rfl⟩ := pigeon bs pre hp (by omega)
    exact det_dup_row cs a c _ b rfl) us [] hu (by simp) (by simp)
  simpa using this
theorem det_some {R : Vec → Prop} {us : List Vec} {cs : List Nat} (hu : ∀ u ∈ us, Sp R u) (hd : det cs us ≠ 0) : ∃ sel : List Vec, (∀ x ∈ sel, R x) ∧ sel.length = us.length ∧ det cs sel ≠ 0 := by
  refine Classical.byContradiction fun hn => hd ?_
  have := det_multi (R := R) (cs := cs) (n := us.length) (fun pre hp hl => Classical.byContradiction fun q => hn ⟨pre, hp, hl, q⟩) us [] hu (by simp) (by simp)
  simpa using this
theorem Ech.det {bs : List Vec} {ps : List Nat} (h : Ech bs ps) : det ps bs ≠ 0 := by
  induction h with
  | nil => decide
  | @cons x p bs ps l a e ih =>
    rw [det_cons, ex_cons, ex_zero' (fun a' y b he => by
      have hy : y ∈ bs := by rw [he]; simp
      obtain ⟨q, hq, lq⟩ := e.mem y hy
      rw [lq.2 p (a q hq)]; simp), Int.sub_zero]
    exact Int.mul_ne_zero l.1 ih
end LA

/-! LA3: rows of whole numbers as lists; divisors, primitive rows. -/
namespace LA
def vec (xs : List Int) : Vec := fun j => xs[j]?.getD 0
theorem vec_nil (j : Nat) : vec [] j = 0 := rfl
theorem vec_0 (x : Int) (xs : List Int) : vec (x :: xs) 0 = x := rfl
theorem vec_s (x : Int) (xs : List Int) (j : Nat) : vec (x :: xs) (j + 1) = vec xs j := by simp [vec]
theorem vec_out {xs : List Int} {j : Nat} (h : xs.length ≤ j) : vec xs j = 0 := by simp [vec, List.getElem?_eq_none h]
theorem vec_in {xs : List Int} {j : Nat} (h : j < xs.length) : vec xs j = xs[j] := by simp [vec, List.getElem?_eq_getElem h]
theorem vec_inj {xs ys : List Int} (hl : xs.length = ys.length) (h : ∀ j, vec xs j = vec ys j) : xs = ys := by
  apply List.ext_getElem hl
  intro j h1 h2
  have := h j
  rwa [vec_in h1, vec_in h2] at this
theorem vec_map (f : Int → Int) (h0 : f 0 = 0) (xs : List Int) (j : Nat) : vec (xs.map f) j = f (vec xs j) := by
  by_cases h : j < xs.length
  · rw [vec_in (by simpa using h), vec_in h, List.getElem_map]
  · rw [vec_out (by simpa using h), vec_out (by simpa using h), h0]
theorem vec_zip {xs ys : List Int} (hl : xs.length = ys.length) (f : Int → Int → Int) (h0 : f 0 0 = 0) (j : Nat) : vec (List.zipWith f xs ys) j = f (vec xs j) (vec ys j) := by
  by_cases h : j < xs.length
  · rw [vec_in (by simp; omega), vec_in h, vec_in (by omega), List.getElem_zipWith]
  · rw [vec_out (by simp; omega), vec_out (by omega), vec_out (by omega), h0]
/-- the divisor of the entries -/
def gcdL : List Int → Nat
  | [] => 0
  | x :: xs => Nat.gcd x.natAbs (gcdL xs)
theorem gcdL_dvd : ∀ (xs : List Int) (j : Nat), (gcdL xs : Int) ∣ vec xs j
  | [], j => by simp [vec_nil]
  | x :: xs, 0 => by rw [vec_0]; exact Int.ofNat_dvd_left.mpr (Nat.gcd_dvd_left _ _)
  | x :: xs, j + 1 => by
    rw [vec_s]
    refine Int.dvd_trans ?_ (gcdL_dvd xs j)
    exact Int.ofNat_dvd.mpr (Nat.gcd_dvd_right _ _)
theorem dvd_gcdL : ∀ {xs : List Int} {d : Nat}, (∀ j, (d : Int) ∣ vec xs j) → d ∣ gcdL xs
  | [], d, _ => Nat.dvd_zero d
  | x :: xs, d, h => Nat.dvd_gcd (Int.ofNat_dvd_left.mp (h 0)) (dvd_gcdL fun j => by have := h (j + 1); rwa [vec_s] at this)
theorem gcdL_0 {xs : List Int} : gcdL xs = 0 ↔ ∀ j, vec xs j = 0 := by
  constructor
  · intro h j
    have := gcdL_dvd xs j
    rw [h] at this
    simpa using this
  · intro h
    have := dvd_gcdL (xs := xs) (d := 0) fun j => by rw [h j]; exact Int.dvd_refl _
    exact Nat.eq_zero_of_zero_dvd this
/-- no divisor but one -/
def Prim (v : Vec) : Prop := ∀ d : Nat, (∀ j, (d : Int) ∣ v j) → d = 1
theorem prim_gcd {xs : List Int} : Prim (vec xs) ↔ gcdL xs = 1 := by
  constructor
  · exact fun h => h _ (gcdL_dvd xs)
  · intro h d hd
    have := dvd_gcdL hd
    rw [h] at this
    exact Nat.dvd_one.mp this
/-- a primitive vector, and a multiple of it that is whole -/
theorem prim_dvd {u m : Vec} {a b : Int} (hu : Prim u) (ha : a ≠ 0) (h : ∀ j, a * m j = b * u j) : ∃ c, b = a * c ∧ ∀ j, m j = c * u j := by
  have hab : a ∣ b := by
    have hg : 0 < Nat.gcd a.natAbs b.natAbs := Nat.gcd_pos_of_pos_left _ (Int.natAbs_pos.mpr ha)
    have key : ∀ j, ((a.natAbs / Nat.gcd a.natAbs b.natAbs : Nat) : Int) ∣ u j := by
      intro j
      rw [Int.ofNat_dvd_left]
      have e : a.natAbs * (m j).natAbs = b.natAbs * (u j).natAbs := by rw [← Int.natAbs_mul, ← Int.natAbs_mul, h j]
      have c := Nat.coprime_div_gcd_div_gcd hg
      apply c.dvd_of_dvd_mul_left
      obtain ⟨a', ea⟩ := Nat.gcd_dvd_left a.natAbs b.natAbs
      obtain ⟨b', eb⟩ := Nat.gcd_dvd_right a.natAbs b.natAbs
      generalize hgg : Nat.gcd a.natAbs b.natAbs = g at *
      have e1 : a.natAbs / g = a' := by rw [ea]; exact Nat.mul_div_cancel_left _ hg
      have e2 : b.natAbs / g = b' := by rw [eb]; exact Nat.mul_div_cancel_left _ hg
      rw [e1, e2]
      refine ⟨(m j).natAbs, ?_⟩
      have e3 : g * a' * (m j).natAbs = g * b' * (u j).natAbs := by rw [← ea, ← eb]; exact e
      rw [Nat.mul_assoc, Nat.mul_assoc] at e3
      exact (Nat.eq_of_mul_eq_mul_left hg e3).symm
    have one := hu _ key
    have : a.natAbs = Nat.gcd a.natAbs b.natAbs := by
      have := Nat.div_mul_cancel (Nat.gcd_dvd_left a.natAbs b.natAbs)
      rw [one] at this
      omega
    rw [← Int.natAbs_dvd_natAbs, this]
    exact Nat.gcd_dvd_right _ _
  obtain ⟨c, rfl⟩ := hab
  refine ⟨c, rfl, fun j => ?_⟩
  have := h j
  rw [Int.mul_assoc] at this
  exact Int.eq_of_mul_eq_mul_left ha this
theorem prim_uniq {u v : Vec} {a b : Int} {p : Nat} (hu : Prim u) (hv : Prim v) (ha : a ≠ 0) (hb : b ≠ 0) (h : ∀ j, a * u j = b * v j) (pu : 0 < u p) (pv : 0 < v p) (j : Nat) : u j = v j := by
  obtain ⟨c, e1, e2⟩ := prim_dvd hv ha h
  have : c.natAbs = 1 := hu _ fun j => by rw [e2 j]; exact Int.dvd_mul_of_dvd_left (Int.natAbs_dvd.mpr (Int.dvd_refl _))
  have : c = 1 := by
    rcases Int.natAbs_eq c with q | q
    · omega
    · rw [this] at q
      have := e2 p
      rw [q] at this
      omega
  rw [e2 j, this]; omega
/-! ### the first entry that is not 0 -/
def piv : List Int → Nat
  | [] => 0
  | x :: xs => if x = 0 then piv xs + 1 else 0
theorem piv_le : ∀ xs, piv xs ≤ xs.length
  | [] => Nat.le_refl _
  | x :: xs => by simp only [piv, List.length_cons]; split <;> have := piv_le xs <;> omega
theorem piv_before : ∀ (xs : List Int) {j : Nat}, j < piv xs → vec xs j = 0
  | [], j, _ => rfl
  | x :: xs, j, h => by
    simp only [piv] at h
    split at h
    · rename_i hx
      cases j with
      | zero => rw [vec_0, hx]
      | succ j => rw [vec_s]; exact piv_before xs (by omega)
    · omega
theorem piv_at : ∀ {xs : List Int}, piv xs < xs.length → vec xs (piv xs) ≠ 0
  | [], h => by simp at h
  | x :: xs, h => by
    simp only [piv] at h ⊢
    split
    · rename_i hx
      rw [if_pos hx] at h
      rw [vec_s]
      exact piv_at (by simp at h; omega)
    · rename_i hx
      rw [vec_0]; exact hx
theorem piv_lead {xs : List Int} (h : piv xs < xs.length) : Lead (vec xs) (piv xs) := ⟨piv_at h, fun _ hj => piv_before xs hj⟩
theorem piv_zero {xs : List Int} : piv xs = xs.length ↔ ∀ j, vec xs j = 0 := by
  constructor
  · intro h j
    by_cases hj : j < xs.length
    · exact piv_before xs (by omega)
    · exact vec_out (by omega)
  · intro h
    have := piv_le xs
    rcases Nat.lt_or_eq_of_le this with q | q
    · exact absurd (h _) (piv_at q)
    · exact q
theorem piv_lt {xs : List Int} {j : Nat} (h : vec xs j ≠ 0) : piv xs < xs.length := by
  have := piv_le xs
  rcases Nat.lt_or_eq_of_le this with q | q
  · exact q
  · exact absurd (piv_zero.mp q j) h
theorem lead_piv {xs : List Int} {p : Nat} (h : Lead (vec xs) p) : piv xs = p := (piv_lead (piv_lt h.1)).uniq h
/-- the row divided by its divisor, the first entry positive -/
def prim (xs : List Int) : List Int := if gcdL xs = 0 then xs else if vec xs (piv xs) < 0 then xs.map (fun e => -(e / (gcdL xs : Int))) else xs.map fun e => e / (gcdL xs : Int)
theorem prim_len (xs : List Int) : (prim xs).length = xs.length := by
  unfold prim
  split
  · rfl
  · split <;> simp
theorem prim_z {xs : List Int} (h : ∀ j, vec xs j = 0) : prim xs = xs := by unfold prim; rw [if_pos (gcdL_0.mpr h)]
structure Nice (b : List Int) : Prop where
  pr : Prim (vec b)
  pos : 0 < vec b (piv b)
theorem Nice.lt {b : List Int} (h : Nice b) : piv b < b.length := piv_lt (j := piv b) (by have := h.pos; omega)
theorem Nice.lead {b : List Int} (h : Nice b) : Lead (vec b) (piv b) := piv_lead h.lt
theorem Nice.ne {b : List Int} (h : Nice b) : vec b (piv b) ≠ 0 := by have := h.pos; omega
theorem prim_eq {xs : List Int} (h : gcdL xs ≠ 0) : ∃ c : Int, c ≠ 0 ∧ c.natAbs = gcdL xs ∧ (∀ j, vec xs j = c * vec (prim xs) j) ∧ 0 < vec (prim xs) (piv xs) := by
  have hg : (0 : Int) < gcdL xs := by omega
  have hnz : vec xs (piv xs) ≠ 0 := by
    apply piv_at
    rcases Nat.lt_or_eq_of_le (piv_le xs) with q | q
    · exact q
    · exact absurd (gcdL_0.mpr (piv_zero.mp q)) h
  have hd : vec xs (piv xs) = (gcdL xs : Int) * (vec xs (piv xs) / (gcdL xs : Int)) := (Int.mul_ediv_cancel' (gcdL_dvd xs _)).symm
  by_cases hs : vec xs (piv xs) < 0
  · refine ⟨-(gcdL xs : Int), by omega, by omega, fun j => ?_, ?_⟩
    · unfold prim
      rw [if_neg h, if_pos hs, vec_map _ (by simp)]
      have := Int.mul_ediv_cancel' (gcdL_dvd xs j)
      rw [Int.neg_mul_neg]; exact this.symm
    · unfold prim
      rw [if_neg h, if_pos hs, vec_map _ (by simp)]
      have : vec xs (piv xs) / (gcdL xs : Int) < 0 := Int.ediv_neg_of_neg_of_pos hs hg
      omega
  · refine ⟨(gcdL xs : Int), by omega, by omega, fun j => ?_, ?_⟩
    · unfold prim
      rw [if_neg h, if_neg hs, vec_map _ (by simp)]
      exact (Int.mul_ediv_cancel' (gcdL_dvd xs j)).symm
    · unfold prim
      rw [if_neg h, if_neg hs, vec_map _ (by simp)]
      have q : 0 ≤ vec xs (piv xs) / (gcdL xs : Int) := Int.ediv_nonneg (by omega) (by omega)
      rcases Int.lt_or_eq_of_le q with q | q
      · exact q
      · rw [← q] at hd; simp at hd; exact absurd hd hnz
theorem prim_nice {xs : List Int} (h : gcdL xs ≠ 0) : Nice (prim xs) ∧ piv (prim xs) = piv xs := by
  obtain ⟨c, hc, hcn, e, hp⟩ := prim_eq h
  have hl : Lead (vec (prim xs)) (piv xs) := by
    refine ⟨by omega, fun j hj => ?_⟩
    have := e j
    rw [piv_before xs hj] at this
    rcases Int.mul_eq_zero.mp this.symm with t | t
    · exact absurd t hc
    · exact t
  have hpv := lead_piv hl
  refine ⟨⟨fun d hd => ?_, by rw [hpv]; exact hp⟩, hpv⟩
  have : d * gcdL xs ∣ gcdL xs := dvd_gcdL fun j => by
    rw [e j, Int.mul_comm c, Int.natCast_mul]
    refine Int.mul_dvd_mul (hd j) ?_
    rw [← hcn]
    exact Int.natAbs_dvd.mpr (Int.dvd_refl _)
  have hpos : 0 < gcdL xs := by omega
  have : d * gcdL xs ≤ 1 * gcdL xs := by rw [Nat.one_mul]; exact Nat.le_of_dvd hpos this
  have h1 := Nat.le_of_mul_le_mul_right this hpos
  have h0 : d ≠ 0 := by
    intro t
    subst t
    have := hd (piv xs)
    simp at this
    omega
  omega
theorem prim_sp (xs : List Int) : Sl [vec xs] (vec (prim xs)) ∧ Sl [vec (prim xs)] (vec xs) := by
  by_cases h : gcdL xs = 0
  · rw [prim_z (gcdL_0.mp h)]; exact ⟨.mem (by simp), .mem (by simp)⟩
  · obtain ⟨c, hc, _, e, _⟩ := prim_eq h
    refine ⟨.div hc ((Sp.mem (R := (· ∈ [vec xs])) (u := vec xs) (by simp)).cg fun j => e j), ?_⟩
    exact (Sp.smul c (Sp.mem (R := (· ∈ [vec (prim xs)])) (u := vec (prim xs)) (by simp))).cg fun j => (e j).symm
theorem prim_at {xs : List Int} {j : Nat} : vec (prim xs) j = 0 ↔ vec xs j = 0 := by
  by_cases h : gcdL xs = 0
  · rw [prim_z (gcdL_0.mp h)]
  · obtain ⟨c, hc, _, e, _⟩ := prim_eq h
    rw [e j]
    constructor
    · intro q; rw [q]; simp
    · intro q
      rcases Int.mul_eq_zero.mp q with t | t
      · exact absurd t hc
      · exact t
theorem prim_le (xs : List Int) (j : Nat) : (vec (prim xs) j).natAbs ≤ (vec xs j).natAbs := by
  by_cases h : gcdL xs = 0
  · rw [prim_z (gcdL_0.mp h)]; exact Nat.le_refl _
  · obtain ⟨c, hc, _, e, _⟩ := prim_eq h
    rw [e j, Int.natAbs_mul]
    exact Nat.le_mul_of_pos_left _ (Int.natAbs_pos.mpr hc)
theorem nice_prim {xs : List Int} (h : Nice xs) : prim xs = xs := by
  have hg : gcdL xs ≠ 0 := fun e => h.ne (gcdL_0.mp e _)
  obtain ⟨c, hc, _, e, hp⟩ := prim_eq hg
  apply vec_inj (prim_len xs)
  intro j
  exact (prim_uniq (a := 1) (b := c) (p := piv xs) h.pr (prim_nice hg).1.pr (by omega) hc (fun j => by rw [← e j]; omega) h.pos hp j).symm
end LA

/-! LA4: canonical bases; how one is extended by a row. -/
namespace LA
/-- a canonical basis of width w -/
structure Can (w : Nat) (bs : List (List Int)) : Prop where
  ech : Ech (bs.map vec) (bs.map piv)
  len : ∀ b ∈ bs, b.length = w
  nice : ∀ b ∈ bs, Nice b
  red : ∀ a ∈ bs, ∀ b ∈ bs, piv a ≠ piv b → vec a (piv b) = 0
/-- the span of rows -/
abbrev Sr (bs : List (List Int)) : Vec → Prop := Sl (bs.map vec)
theorem Sr_mem {bs : List (List Int)} {b : List Int} (h : b ∈ bs) : Sr bs (vec b) := .mem (List.mem_map_of_mem h)
theorem Sr_of {bs : List (List Int)} {R : Vec → Prop} (h : ∀ b ∈ bs, Sp R (vec b)) {u : Vec} (hu : Sr bs u) : Sp R u := hu.trans fun r hr => by
  obtain ⟨b, hb, rfl⟩ := List.mem_map.mp hr
  exact h b hb
theorem Can.nil (w : Nat) : Can w [] := ⟨.nil, by simp, by simp, by simp⟩
theorem Can.zero {w : Nat} {bs : List (List Int)} (h : Can w bs) {u : Vec} (hu : Sr bs u) (hz : ∀ b ∈ bs, u (piv b) = 0) (j : Nat) : u j = 0 :=
  h.ech.zero hu (fun p hp => by obtain ⟨b, hb, rfl⟩ := List.mem_map.mp hp; exact hz b hb) j
theorem Can.tail {w : Nat} {b : List Int} {bs : List (List Int)} (h : Can w (b :: bs)) : Can w bs ∧ ∀ c ∈ bs, piv b < piv c := by
  have e := h.ech
  simp only [List.map_cons] at e
  cases e with
  | cons l a e => exact ⟨⟨e, fun c hc => h.len c (by simp [hc]), fun c hc => h.nice c (by simp [hc]), fun a' ha b' hb => h.red a' (by simp [ha]) b' (by simp [hb])⟩, fun c hc => a _ (List.mem_map_of_mem hc)⟩
theorem Can.uniq {w : Nat} : ∀ {bs bs' : List (List Int)}, Can w bs → Can w bs' → (∀ u, Sr bs u ↔ Sr bs' u) → bs = bs' := by
  intro bs bs' h h' s
  have hp : bs.map piv = bs'.map piv := h.ech.same h'.ech s
  have hl : bs.length = bs'.length := by simpa using congrArg List.length hp
  apply List.ext_getElem hl
  intro i h1 h2
  have e : piv bs[i] = piv bs'[i] := by
    have := congrArg (fun l => l[i]?) hp
    simpa [h1, h2] using this
  have m1 : bs[i] ∈ bs := List.getElem_mem h1
  have m2 : bs'[i] ∈ bs' := List.getElem_mem h2
  generalize bs[i] = b at *
  generalize bs'[i] = b' at *
  apply vec_inj ((h.len b m1).trans (h'.len b' m2).symm)
  intro j
  refine prim_uniq (a := vec b' (piv b)) (b := vec b (piv b)) (p := piv b) (h.nice b m1).pr (h'.nice b' m2).pr (by rw [e]; exact (h'.nice b' m2).ne) (h.nice b m1).ne (fun j => ?_) (h.nice b m1).pos (by rw [e]; exact (h'.nice b' m2).pos) j
  have := h.zero (Sp.sub (vec b' (piv b)) (vec b (piv b)) (Sr_mem m1) ((s _).mpr (Sr_mem m2))) (fun c hc => by
    by_cases q : piv b = piv c
    · rw [← q, Int.mul_comm]; omega
    · have q2 : piv c ∈ bs'.map piv := by rw [← hp]; exact List.mem_map_of_mem hc
      obtain ⟨c', hc', ec⟩ := List.mem_map.mp q2
      rw [h.red b m1 c hc q]
      have : vec b' (piv c) = 0 := by rw [← ec]; exact h'.red b' m2 c' hc' (by rw [ec, ← e]; exact q)
      rw [this]; simp) j
  omega
/-- one row cleared at a place by another one -/
def clearW (row base : List Int) (at_ : Nat) : List Int := List.zipWith (fun e o => e * vec base at_ - o * vec row at_) row base
def clearR (row base : List Int) (at_ : Nat) : List Int := prim (clearW row base at_)
theorem clearW_len {row base : List Int} (h : row.length = base.length) (at_ : Nat) : (clearW row base at_).length = row.length := by simp [clearW, h]
theorem clear_len {row base : List Int} (h : row.length = base.length) (at_ : Nat) : (clearR row base at_).length = row.length := by rw [clearR, prim_len, clearW_len h]
theorem clearW_at {row base : List Int} (h : row.length = base.length) (at_ j : Nat) : vec (clearW row base at_) j = vec row j * vec base at_ - vec base j * vec row at_ := by
  unfold clearW
  rw [vec_zip h (fun e o => e * vec base at_ - o * vec row at_) (by simp)]
theorem clear_sp {row base : List Int} (h : row.length = base.length) {at_ : Nat} (hb : vec base at_ ≠ 0) {R : Vec → Prop} (hR : Sp R (vec base)) :
    (Sp R (vec row) → Sp R (vec (clearR row base at_))) ∧ (Sp R (vec (clearR row base at_)) → Sp R (vec row)) := by
  have q := prim_sp (clearW row base at_)
  constructor
  · intro hr
    refine Sp.trans (fun r hm => ?_) q.1
    rw [List.mem_singleton.mp hm]
    exact (Sp.sub (vec base at_) (vec row at_) hr hR).cg fun j => by rw [clearW_at h, Int.mul_comm (vec base at_), Int.mul_comm (vec row at_)]
  · intro hc
    have hw : Sp R (vec (clearW row base at_)) := Sp.trans (fun r hm => by rw [List.mem_singleton.mp hm]; exact hc) q.2
    refine .div hb ((hw.add (.smul (vec row at_) hR)).cg fun j => ?_)
    simp only [vadd, vmul]
    rw [clearW_at h, Int.mul_comm (vec base at_), Int.mul_comm (vec row at_)]; omega
theorem clear_z {row base : List Int} (h : row.length = base.length) (at_ : Nat) : vec (clearR row base at_) at_ = 0 := by
  rw [clearR, prim_at, clearW_at h, Int.mul_comm]; omega
theorem clear_keep {row base : List Int} (h : row.length = base.length) {at_ j : Nat} (hb : vec base j = 0) (hr : vec row j = 0) : vec (clearR row base at_) j = 0 := by
  rw [clearR, prim_at, clearW_at h, hb, hr]; simp
theorem clear_ne {row base : List Int} (h : row.length = base.length) {at_ j : Nat} (ha : vec base at_ ≠ 0) (hb : vec base j = 0) (hr : vec row j ≠ 0) : vec (clearR row base at_) j ≠ 0 := by
  intro q
  rw [clearR, prim_at, clearW_at h, hb] at q
  have : vec row j * vec base at_ = 0 := by omega
  rcases Int.mul_eq_zero.mp this with t | t
  · exact hr t
  · exact ha t
theorem clear_nice {row base : List Int} (h : row.length = base.length) {at_ j : Nat} (hn : vec (clearR row base at_) j ≠ 0) : Nice (clearR row base at_) := by
  refine (prim_nice fun e => hn ?_).1
  rw [clearR, prim_at]
  exact gcdL_0.mp e j
/-- what is left of a row -/
def remR (row : List Int) : List (List Int) → List Int
  | [] => row
  | b :: bs => remR (if vec row (piv b) = 0 then row else clearR row b (piv b)) bs
theorem rem_len {w : Nat} : ∀ {bs : List (List Int)} {row : List Int}, (∀ b ∈ bs, b.length = w) → row.length = w → (remR row bs).length = w
  | [], row, _, h => h
  | b :: bs, row, hb, h => by
    unfold remR
    refine rem_len (fun c hc => hb c (by simp [hc])) ?_
    split
    · exact h
    · rw [clear_len (by rw [h, hb b (by simp)]), h]
theorem rem_sp {w : Nat} : ∀ {bs : List (List Int)} {row : List Int} {R : Vec → Prop}, (∀ b ∈ bs, b.length = w ∧ Nice b ∧ Sp R (vec b)) → row.length = w → (Sp R (vec row) ↔ Sp R (vec (remR row bs)))
  | [], row, R, _, h => Iff.rfl
  | b :: bs, row, R, hb, h => by
    obtain ⟨h1, h2, h3⟩ := hb b (by simp)
    unfold remR
    have ih := fun row h => rem_sp (row := row) (R := R) (fun c hc => hb c (List.mem_cons_of_mem _ hc)) h
    by_cases hz : vec row (piv b) = 0
    · rw [if_pos hz]; exact ih row h
    · rw [if_neg hz]
      have hl : row.length = b.length := by rw [h, h1]
      have c := clear_sp hl h2.ne h3
      rw [← ih _ (by rw [clear_len hl, h])]
      exact ⟨c.1, c.2⟩
theorem rem_keep {w : Nat} {p : Nat} : ∀ {bs : List (List Int)} {row : List Int}, (∀ b ∈ bs, b.length = w ∧ vec b p = 0) → row.length = w → vec row p = 0 → vec (remR row bs) p = 0
  | [], row, _, _, h => h
  | b :: bs, row, hb, hl, h => by
    obtain ⟨h1, h2⟩ := hb b (by simp)
    have hl' : row.length = b.length := by rw [hl, h1]
    unfold remR
    refine rem_keep (fun c hc => hb c (List.mem_cons_of_mem _ hc)) ?_ ?_
    · split
      · exact hl
      · rw [clear_len hl', hl]
    · split
      · exact h
      · exact clear_keep hl' h2 h
theorem rem_van {w : Nat} : ∀ {bs : List (List Int)} {row : List Int}, Can w bs → row.length = w → ∀ b ∈ bs, vec (remR row bs) (piv b) = 0
  | [], row, _, _, b, hb => by simp at hb
  | c :: bs, row, h, hl, b, hb => by
    obtain ⟨ht, ha⟩ := h.tail
    have hl' : row.length = c.length := by rw [hl, h.len c (by simp)]
    unfold remR
    have hl2 : (if vec row (piv c) = 0 then row else clearR row c (piv c)).length = w := by
      split
      · exact hl
      · rw [clear_len hl', hl]
    rcases List.mem_cons.mp hb with rfl | hb
    · refine rem_keep (fun d hd => ⟨h.len d (by simp [hd]), h.red d (by simp [hd]) b (by simp) (by have := ha d hd; omega)⟩) hl2 ?_
      split
      · rename_i q; exact q
      · exact clear_z hl' _
    · exact rem_van ht hl2 b hb
theorem Can.facts {w : Nat} {bs : List (List Int)} (h : Can w bs) {R : Vec → Prop} (hR : ∀ b ∈ bs, Sp R (vec b)) : ∀ b ∈ bs, b.length = w ∧ Nice b ∧ Sp R (vec b) := fun b hb => ⟨h.len b hb, h.nice b hb, hR b hb⟩
/-- membership -/
theorem rem_zero {w : Nat} {bs : List (List Int)} {row : List Int} (h : Can w bs) (hl : row.length = w) : Sr bs (vec row) ↔ ∀ j, vec (remR row bs) j = 0 := by
  have s := rem_sp (R := (· ∈ bs.map vec)) (h.facts fun b hb => Sr_mem hb) hl
  constructor
  · intro hr
    exact h.zero (s.mp hr) (rem_van h hl)
  · intro hz
    exact s.mpr (Sp.zero.cg fun j => (hz j).symm)
/-- a row put into its place -/
def insR (rest : List Int) (at_ : Nat) : List (List Int) → List (List Int)
  | [] => [rest]
  | b :: bs => if at_ < piv b then rest :: b :: bs else (if vec b at_ = 0 then b else clearR b rest at_) :: insR rest at_ bs
def extR (bs : List (List Int)) (row : List Int) : List (List Int) :=
  let rest := prim (remR row bs)
  if piv rest = rest.length then bs else insR rest (piv rest) bs
def clrB (rest : List Int) (b : List Int) : List Int := if vec b (piv rest) = 0 then b else clearR b rest (piv rest)
theorem clrB_ok {w : Nat} {rest b : List Int} (hr : Nice rest) (hrl : rest.length = w) (hb : Nice b) (hbl : b.length = w) (hne : piv b ≠ piv rest) (hz : vec rest (piv b) = 0) :
    (clrB rest b).length = w ∧ Nice (clrB rest b) ∧ piv (clrB rest b) = piv b ∧ vec (clrB rest b) (piv rest) = 0 := by
  unfold clrB
  by_cases h : vec b (piv rest) = 0
  · rw [if_pos h]; exact ⟨hbl, hb, rfl, h⟩
  · rw [if_neg h]
    have hlt : piv b < piv rest := by
      rcases Nat.lt_or_ge (piv rest) (piv b) with q | q
      · exact absurd (piv_before b q) h
      · omega
    have hl : b.length = rest.length := by rw [hrl, hbl]
    have l : Lead (vec (clearR b rest (piv rest))) (piv b) := by
      refine ⟨clear_ne hl hr.ne hz hb.ne, fun j hj => ?_⟩
      exact clear_keep hl (piv_before rest (by omega)) (piv_before b hj)
    exact ⟨by rw [clear_len hl, hbl], clear_nice hl l.1, lead_piv l, clear_z hl _⟩
theorem clrB_lt {rest b : List Int} (h : piv rest < piv b) : clrB rest b = b := by unfold clrB; rw [if_pos (piv_before b h)]
theorem ins_mem {w : Nat} {rest : List Int} : ∀ {bs : List (List Int)} {c : List Int}, Can w bs → (c ∈ insR rest (piv rest) bs ↔ c = rest ∨ ∃ b ∈ bs, c = clrB rest b)
  | [], c, _ => by simp [insR]
  | b :: bs, c, h => by
    obtain ⟨ht, ha⟩ := h.tail
    unfold insR
    split
    · rename_i q
      constructor
      · intro hc
        rcases List.mem_cons.mp hc with e | hc
        · exact .inl e
        · refine .inr ⟨c, hc, (clrB_lt ?_).symm⟩
          rcases List.mem_cons.mp hc with rfl | hc
          · exact q
          · have := ha c hc; omega
      · rintro (e | ⟨b', hb', e⟩)
        · rw [e]; simp
        · have : piv rest < piv b' := by
            rcases List.mem_cons.mp hb' with rfl | hb'
            · exact q
            · have := ha b' hb'; omega
          rw [clrB_lt this] at e
          rw [e]; exact List.mem_cons_of_mem _ hb'
    · rename_i q
      constructor
      · intro hc
        rcases List.mem_cons.mp hc with e | hc
        · exact .inr ⟨b, by simp, e⟩
        · rcases (ins_mem ht).mp hc with e | ⟨b', hb', e⟩
          · exact .inl e
          · exact .inr ⟨b', by simp [hb'], e⟩
      · rintro (e | ⟨b', hb', e⟩)
        · exact List.mem_cons_of_mem _ ((ins_mem ht).mpr (.inl e))
        · rcases List.mem_cons.mp hb' with rfl | hb'
          · rw [e]; exact List.mem_cons_self
          · exact List.mem_cons_of_mem _ ((ins_mem ht).mpr (.inr ⟨b', hb', e⟩))
theorem ins_ech {w : Nat} {rest : List Int} (hr : Nice rest) (hrl : rest.length = w) : ∀ {bs : List (List Int)}, Can w bs → (∀ b ∈ bs, piv b ≠ piv rest ∧ vec rest (piv b) = 0) → Ech ((insR rest (piv rest) bs).map vec) ((insR rest (piv rest) bs).map piv)
  | [], _, _ => by
    unfold insR
    exact .cons hr.lead (by simp) .nil
  | b :: bs, h, hz => by
    obtain ⟨ht, ha⟩ := h.tail
    unfold insR
    split
    · rename_i q
      simp only [List.map_cons]
      refine .cons hr.lead (fun p hp => ?_) h.ech
      rcases List.mem_cons.mp hp with rfl | hp
      · exact q
      · obtain ⟨c, hc, rfl⟩ := List.mem_map.mp hp
        have := ha c hc; omega
    · rename_i q
      obtain ⟨z1, z2⟩ := hz b (by simp)
      obtain ⟨k1, k2, k3, k4⟩ := clrB_ok hr hrl (h.nice b (by simp)) (h.len b (by simp)) z1 z2
      simp only [List.map_cons]
      have e1 : (if vec b (piv rest) = 0 then b else clearR b rest (piv rest)) = clrB rest b := rfl
      rw [e1]
      refine .cons k2.lead (fun p hp => ?_) (ins_ech hr hrl ht fun c hc => hz c (by simp [hc]))
      obtain ⟨c, hc, rfl⟩ := List.mem_map.mp hp
      rw [k3]
      rcases (ins_mem ht).mp hc with rfl | ⟨b', hb', rfl⟩
      · omega
      · obtain ⟨y1, y2⟩ := hz b' (by simp [hb'])
        obtain ⟨_, _, k3', _⟩ := clrB_ok hr hrl (ht.nice b' hb') (ht.len b' hb') y1 y2
        rw [k3']
        exact ha b' hb'
theorem ins_can {w : Nat} {rest : List Int} (hr : Nice rest) (hrl : rest.length = w) {bs : List (List Int)} (h : Can w bs) (hz : ∀ b ∈ bs, piv b ≠ piv rest ∧ vec rest (piv b) = 0) : Can w (insR rest (piv rest) bs) := by
  have ok := fun b hb => clrB_ok hr hrl (h.nice b hb) (h.len b hb) (hz b hb).1 (hz b hb).2
  refine ⟨ins_ech hr hrl h hz, fun c hc => ?_, fun c hc => ?_, fun a ha c hc hne => ?_⟩
  · rcases (ins_mem h).mp hc with rfl | ⟨b, hb, rfl⟩
    · exact hrl
    · exact (ok b hb).1
  · rcases (ins_mem h).mp hc with rfl | ⟨b, hb, rfl⟩
    · exact hr
    · exact (ok b hb).2.1
  · rcases (ins_mem h).mp ha with rfl | ⟨b, hb, rfl⟩
    · rcases (ins_mem h).mp hc with rfl | ⟨b', hb', rfl⟩
      · exact absurd rfl hne
      · rw [(ok b' hb').2.2.1]; exact (hz b' hb').2
    · rcases (ins_mem h).mp hc with rfl | ⟨b', hb', rfl⟩
      · exact (ok b hb).2.2.2
      · rw [(ok b' hb').2.2.1]
        rw [(ok b' hb').2.2.1, (ok b hb).2.2.1] at hne
        have z1 := h.red b hb b' hb' hne
        have z2 := (hz b' hb').2
        unfold clrB
        split
        · exact z1
        · exact clear_keep (by rw [hrl, h.len b hb]) z2 z1
theorem ins_sp {w : Nat} {rest : List Int} (hr : Nice rest) (hrl : rest.length = w) {bs : List (List Int)} (h : Can w bs) {R : Vec → Prop} : (∀ c ∈ insR rest (piv rest) bs, Sp R (vec c)) ↔ Sp R (vec rest) ∧ ∀ b ∈ bs, Sp R (vec b) := by
  have key : ∀ b ∈ bs, Sp R (vec rest) → (Sp R (vec b) ↔ Sp R (vec (clrB rest b))) := by
    intro b hb hR
    unfold clrB
    split
    · exact Iff.rfl
    · have c := clear_sp (row := b) (base := rest) (by rw [hrl, h.len b hb]) hr.ne hR
      exact ⟨c.1, c.2⟩
  constructor
  · intro q
    have r := q rest ((ins_mem h).mpr (.inl rfl))
    exact ⟨r, fun b hb => (key b hb r).mpr (q _ ((ins_mem h).mpr (.inr ⟨b, hb, rfl⟩)))⟩
  · rintro ⟨r, q⟩ c hc
    rcases (ins_mem h).mp hc with rfl | ⟨b, hb, rfl⟩
    · exact r
    · exact (key b hb r).mp (q b hb)
/-- the basis and one more row -/
theorem ext_ok {w : Nat} {bs : List (List Int)} {row : List Int} (h : Can w bs) (hl : row.length = w) : Can w (extR bs row) ∧ ∀ R : Vec → Prop, (∀ c ∈ extR bs row, Sp R (vec c)) ↔ Sp R (vec row) ∧ ∀ b ∈ bs, Sp R (vec b) := by
  have hrl : (remR row bs).length = w := rem_len h.len hl
  have hpl : (prim (remR row bs)).length = w := by rw [prim_len, hrl]
  have hv := rem_van h hl
  have ps := prim_sp (remR row bs)
  have same : ∀ R : Vec → Prop, (∀ b ∈ bs, Sp R (vec b)) → (Sp R (vec row) ↔ Sp R (vec (prim (remR row bs)))) := fun R hR => by
    rw [rem_sp (h.facts hR) hl]
    constructor
    · intro q; exact ps.1.trans fun r hm => by rw [List.mem_singleton.mp hm]; exact q
    · intro q; exact ps.2.trans fun r hm => by rw [List.mem_singleton.mp hm]; exact q
  unfold extR
  simp only
  by_cases hz : piv (prim (remR row bs)) = (prim (remR row bs)).length
  · rw [if_pos hz]
    refine ⟨h, fun R => ⟨fun q => ⟨(same R q).mpr (Sp.zero.cg fun j => (piv_zero.mp hz j).symm), q⟩, fun q => q.2⟩⟩
  · rw [if_neg hz]
    have hg : gcdL (remR row bs) ≠ 0 := by
      intro e
      apply hz
      rw [prim_z (gcdL_0.mp e)]
      exact piv_zero.mpr (gcdL_0.mp e)
    obtain ⟨hn, hpv⟩ := prim_nice hg
    have hzz : ∀ b ∈ bs, piv b ≠ piv (prim (remR row bs)) ∧ vec (prim (remR row bs)) (piv b) = 0 := by
      intro b hb
      have : vec (prim (remR row bs)) (piv b) = 0 := prim_at.mpr (hv b hb)
      refine ⟨fun e => ?_, this⟩
      rw [e] at this
      exact hn.ne this
    refine ⟨ins_can hn hpl h hzz, fun R => ?_⟩
    rw [ins_sp hn hpl h]
    constructor
    · rintro ⟨a, b⟩; exact ⟨(same R b).mpr a, b⟩
    · rintro ⟨a, b⟩; exact ⟨(same R b).mp a, b⟩
def redR (rows : List (List Int)) : List (List Int) := rows.foldl extR []
theorem red_aux {w : Nat} : ∀ {rows bs : List (List Int)}, Can w bs → (∀ r ∈ rows, r.length = w) → Can w (rows.foldl extR bs) ∧ ∀ R : Vec → Prop, (∀ c ∈ rows.foldl extR bs, Sp R (vec c)) ↔ (∀ r ∈ rows, Sp R (vec r)) ∧ ∀ b ∈ bs, Sp R (vec b)
  | [], bs, h, _ => ⟨h, fun R => by simp⟩
  | r :: rows, bs, h, hl => by
    obtain ⟨h1, s1⟩ := ext_ok h (hl r (by simp))
    obtain ⟨h2, s2⟩ := red_aux (rows := rows) h1 (fun x hx => hl x (by simp [hx]))
    refine ⟨h2, fun R => ?_⟩
    rw [List.foldl_cons, s2 R, s1 R]
    simp only [List.mem_cons, forall_eq_or_imp]
    constructor
    · rintro ⟨a, b, c⟩; exact ⟨⟨b, a⟩, c⟩
    · rintro ⟨⟨b, a⟩, c⟩; exact ⟨a, b, c⟩
theorem red_can {w : Nat} {rows : List (List Int)} (hl : ∀ r ∈ rows, r.length = w) : Can w (redR rows) := (red_aux (Can.nil w) hl).1
theorem red_sp {w : Nat} {rows : List (List Int)} (hl : ∀ r ∈ rows, r.length = w) (R : Vec → Prop) : (∀ c ∈ redR rows, Sp R (vec c)) ↔ ∀ r ∈ rows, Sp R (vec r) := by
  rw [redR, (red_aux (Can.nil w) hl).2 R]; simp
theorem red_span {w : Nat} {rows : List (List Int)} (hl : ∀ r ∈ rows, r.length = w) (u : Vec) : Sr (redR rows) u ↔ Sr rows u :=
  ⟨Sr_of ((red_sp hl (· ∈ rows.map vec)).mpr fun r hr => Sr_mem hr), Sr_of ((red_sp hl (· ∈ (redR rows).map vec)).mp fun r hr => Sr_mem hr)⟩
theorem ext_span {w : Nat} {bs : List (List Int)} {row : List Int} (h : Can w bs) (hl : row.length = w) (u : Vec) : Sr (extR bs row) u ↔ Sr (bs ++ [row]) u :=
  ⟨Sr_of (((ext_ok h hl).2 _).mpr ⟨Sr_mem (by simp), fun b hb => Sr_mem (by simp [hb])⟩), Sr_of fun b hb => by
    have q := ((ext_ok h hl).2 (· ∈ (extR bs row).map vec)).mp fun r hr => Sr_mem hr
    rcases List.mem_append.mp hb with hb | hb
    · exact q.2 b hb
    · rw [List.mem_singleton.mp hb]; exact q.1⟩
theorem red_same {w : Nat} {rows rows' : List (List Int)} (hl : ∀ r ∈ rows, r.length = w) (hl' : ∀ r ∈ rows', r.length = w) (s : ∀ u, Sr rows u ↔ Sr rows' u) : redR rows = redR rows' :=
  (red_can hl).uniq (red_can hl') fun u => by rw [red_span hl, red_span hl', s]
theorem red_self {w : Nat} {bs : List (List Int)} (h : Can w bs) : redR bs = bs := (red_can h.len).uniq h fun u => red_span h.len u
end LA

/-! LA5: how great the entries of canonical bases get. -/
namespace LA
theorem det_colfront {p : Nat} : ∀ {ps : List Nat}, p ∈ ps → ∃ s : Int, (s = 1 ∨ s = -1) ∧ ∀ rows, det ps rows = s * det (p :: ps.erase p) rows
  | [], h => by simp at h
  | q :: ps, h => by
    by_cases e : q = p
    · subst e
      exact ⟨1, .inl rfl, fun rows => by simp⟩
    · have h' : p ∈ ps := by
        rcases List.mem_cons.mp h with t | t
        · exact absurd t.symm e
        · exact t
      obtain ⟨s, hs, f⟩ := det_colfront h'
      refine ⟨-s, by omega, fun rows => ?_⟩
      have : (q :: ps).erase p = q :: ps.erase p := by simp [List.erase_cons, e]
      rw [this, det_swap_col, det_cons, det_cons (c := q)]
      have : ex (fun x r => x q * det ps r) rows = s * ex (fun x r => x q * det (p :: ps.erase p) r) rows := by
        rw [← ex_mul]
        exact ex_congr fun x r => by rw [f r, Int.mul_left_comm]
      rw [this, Int.neg_mul, Int.mul_neg, Int.neg_neg]
theorem ex_sp {R : Vec → Prop} (g : List Vec → Int) {rows : List Vec} (h : ∀ x ∈ rows, Sp R x) : Sp R (fun j => ex (fun x r => x j * g r) rows) := by
  induction rows generalizing g with
  | nil => exact Sp.zero.cg fun j => rfl
  | cons x rows ih =>
    refine (Sp.sub (g rows) 1 (h x (by simp)) (ih (fun r => g (x :: r)) fun y hy => h y (by simp [hy]))).cg fun j => ?_
    rw [ex_cons, Int.mul_comm (g rows)]
    omega
/-- bounded entries -/
def Bd (B : Nat) (v : Vec) : Prop := ∀ j, (v j).natAbs ≤ B
theorem Bd.mono {B B' : Nat} {v : Vec} (h : Bd B v) (l : B ≤ B') : Bd B' v := fun j => Nat.le_trans (h j) l
theorem bd_div {B : Nat} {m b : Vec} {c : Int} (hc : c ≠ 0) (h : ∀ j, m j = c * b j) (hm : Bd B m) : Bd B b := fun j => by
  have := hm j
  rw [h j, Int.natAbs_mul] at this
  exact Nat.le_trans (Nat.le_mul_of_pos_left _ (Int.natAbs_pos.mpr hc)) this
/-- a common multiple of the pivots by which the rows stay below M -/
structure Cram (bs : List (List Int)) (M : Nat) (D : Int) : Prop where
  ne : D ≠ 0
  le : D.natAbs ≤ M
  row : ∀ b ∈ bs, ∃ c, c * vec b (piv b) = D ∧ Bd M (fun j => c * vec b j)
theorem Cram.bd {bs : List (List Int)} {M : Nat} {D : Int} (h : Cram bs M D) : ∀ b ∈ bs, Bd M (vec b) := fun b hb => by
  obtain ⟨c, e, q⟩ := h.row b hb
  exact bd_div (c := c) (fun z => h.ne (by rw [← e, z]; simp)) (fun j => rfl) q
theorem asc_nodup {ps : List Nat} (h : ps.Pairwise (· < ·)) : ps.Nodup := h.imp fun q => by omega
theorem can_cram {w : Nat} {bs : List (List Int)} (h : Can w bs) {R : Vec → Prop} {B : Nat} (hR : ∀ r, R r → Bd B r) (s : ∀ u, Sr bs u ↔ Sp R u) : ∃ D, Cram bs (fact bs.length * B ^ bs.length) D := by
  obtain ⟨sel, h1, h2, h3⟩ := det_some (R := R) (us := bs.map vec) (cs := bs.map piv) (fun u hu => (s u).mp (.mem hu)) h.ech.det
  have hl : sel.length = (bs.map piv).length := by simpa using h2
  have hnd := asc_nodup h.ech.asc
  have le : ∀ cs : List Nat, cs.length = bs.length → (det cs sel).natAbs ≤ fact bs.length * B ^ bs.length := fun cs hc => by
    have := det_le (B := B) (cs := cs) (rows := sel) (by rw [hl, hc]; simp) (fun r hr c _ => hR r (h1 r hr) c)
    rwa [hc] at this
  refine ⟨det (bs.map piv) sel, h3, le _ (by simp), fun b hb => ?_⟩
  have hp : piv b ∈ bs.map piv := List.mem_map_of_mem hb
  obtain ⟨sg, hs, f⟩ := det_colfront hp
  have hlen : (piv b :: (bs.map piv).erase (piv b)).length = bs.length := by
    have := List.length_erase_of_mem hp
    have h0 : 0 < (bs.map piv).length := List.length_pos_of_mem hp
    simp only [List.length_cons, List.length_map] at *
    omega
  have m_sp : Sr bs (fun j => det (j :: (bs.map piv).erase (piv b)) sel) := (s _).mpr (ex_sp (fun r => det ((bs.map piv).erase (piv b)) r) fun x hx => .mem (h1 x hx))
  have m_z : ∀ c ∈ bs, piv c ≠ piv b → det (piv c :: (bs.map piv).erase (piv b)) sel = 0 := fun c hc hne => det_dup_col ((List.mem_erase_of_ne hne).mpr (List.mem_map_of_mem hc))
  have m_bd : Bd (fact bs.length * B ^ bs.length) (fun j => det (j :: (bs.map piv).erase (piv b)) sel) := fun j => le _ (by simpa using hlen)
  have m_p : det (bs.map piv) sel = sg * det (piv b :: (bs.map piv).erase (piv b)) sel := f sel
  generalize hm : (fun j => det (j :: (bs.map piv).erase (piv b)) sel) = m at m_sp m_bd
  have hmj : ∀ j, det (j :: (bs.map piv).erase (piv b)) sel = m j := fun j => by rw [← hm]
  rw [hmj] at m_p
  have key : ∀ j, vec b (piv b) * m j = m (piv b) * vec b j := by
    intro j
    have := h.zero (Sp.sub (vec b (piv b)) (m (piv b)) m_sp (Sr_mem hb)) (fun c hc => by
      by_cases q : piv c = piv b
      · rw [q, Int.mul_comm]; omega
      · have := m_z c hc q
        rw [hmj] at this
        rw [this, h.red b hb c hc (fun z => q z.symm)]; simp) j
    omega
  obtain ⟨c, e1, e2⟩ := prim_dvd (h.nice b hb).pr (h.nice b hb).ne key
  refine ⟨sg * c, ?_, fun j => ?_⟩
  · rw [m_p, e2 (piv b), Int.mul_assoc]
  · have := m_bd j
    rw [e2 j] at this
    show (sg * c * vec b j).natAbs ≤ _
    rw [Int.mul_assoc, Int.natAbs_mul]
    have : sg.natAbs = 1 := by omega
    rw [this, Nat.one_mul]
    assumption
/-! ### what is left of a row, on its way -/
/-- the rows on the way, ahead of the division, stay below N -/
def RemOk (N : Nat) (row : List Int) : List (List Int) → Prop
  | [] => True
  | b :: bs => (vec row (piv b) ≠ 0 → Bd N (vec (clearW row b (piv b)))) ∧ RemOk N (if vec row (piv b) = 0 then row else clearR row b (piv b)) bs
theorem clearW_bd {row base : List Int} (h : row.length = base.length) (at_ : Nat) {A C : Nat} (ha : Bd A (vec row)) (hc : Bd C (vec base)) : Bd (2 * (A * C)) (vec (clearW row base at_)) := fun j => by
  rw [clearW_at h]
  have h1 := Nat.mul_le_mul (ha j) (hc at_)
  have h2 := Nat.mul_le_mul (hc j) (ha at_)
  rw [← Int.natAbs_mul] at h1 h2
  have := Int.natAbs_sub_le (vec row j * vec base at_) (vec base j * vec row at_)
  rw [Nat.mul_comm C] at h2
  omega
theorem Sp_append {bs : List (List Int)} {b : List Int} {u : Vec} (h : Sr bs u) : Sr (bs ++ [b]) u := h.mono fun r hr => by
  obtain ⟨c, hc, rfl⟩ := List.mem_map.mp hr
  exact List.mem_map_of_mem (by simp [hc])
/-- where the row stands behind the first rows of the basis -/
structure Way (M B : Nat) (D : Int) (r : Vec) (pre : List (List Int)) (cur : List Int) : Prop where
  van : ∀ b ∈ pre, vec cur (piv b) = 0
  how : (∀ j, vec cur j = r j) ∨ Nice cur ∨ ∀ j, vec cur j = 0
  sp : ∃ (a b : Int) (s : Vec), a ≠ 0 ∧ b ≠ 0 ∧ Sr pre s ∧ ∀ j, a * vec cur j = b * r j + s j
  u : ∃ (u s : Vec), Sr pre s ∧ (∀ j, u j = D * r j + s j) ∧ (∀ b ∈ pre, u (piv b) = 0) ∧ Bd ((pre.length + 1) * (M * B)) u
theorem Way.bd {w M B : Nat} {D : Int} {r : Vec} {pre : List (List Int)} {cur : List Int} (h : Way M B D r pre cur) (hc : Can w pre) (hD : D ≠ 0) (hM : 1 ≤ M) (hr : Bd B r) : Bd ((pre.length + 1) * (M * B)) (vec cur) := by
  rcases h.how with q | q | q
  · intro j
    rw [q j]
    refine Nat.le_trans (hr j) ?_
    calc B ≤ M * B := Nat.le_mul_of_pos_left _ hM
      _ ≤ (pre.length + 1) * (M * B) := Nat.le_mul_of_pos_left _ (by omega)
  · obtain ⟨u, s, hs, e, z, bu⟩ := h.u
    obtain ⟨a, b, s', ha, hb, hs', e'⟩ := h.sp
    have key : ∀ j, b * u j = (D * a) * vec cur j := by
      intro j
      have hz := hc.zero (u := fun j => b * s j - D * s' j) (Sp.sub b D hs hs') (fun c hcm => by
        have z1 := z c hcm
        have z2 := h.van c hcm
        have e1 := e (piv c)
        have e2 := e' (piv c)
        rw [z1] at e1
        rw [z2, Int.mul_zero] at e2
        have x1 : s (piv c) = -(D * r (piv c)) := by omega
        have x2 : s' (piv c) = -(b * r (piv c)) := by omega
        show b * s (piv c) - D * s' (piv c) = 0
        rw [x1, x2, Int.mul_neg, Int.mul_neg, Int.mul_left_comm]; omega) j
      have e1 := e j
      have e2 := e' j
      grind
    obtain ⟨c, e1, e2⟩ := prim_dvd q.pr hb key
    refine bd_div (c := c) (fun t => ?_) e2 bu
    rw [t, Int.mul_zero] at e1
    exact Int.mul_ne_zero hD ha e1
  · intro j
    rw [q j]; exact Nat.zero_le _
theorem Can.pre {w : Nat} : ∀ {pre post : List (List Int)}, Can w (pre ++ post) → Can w pre
  | [], post, h => Can.nil w
  | b :: pre, post, h => by
    obtain ⟨ht, ha⟩ := Can.tail (b := b) (bs := pre ++ post) h
    have ih := Can.pre ht
    exact ⟨.cons (h.nice b (by simp)).lead (fun p hp => by obtain ⟨c, hc, rfl⟩ := List.mem_map.mp hp; exact ha c (by simp [hc])) ih.ech, fun c hc => h.len c (by simp at hc ⊢; rcases hc with hc | hc <;> simp [hc]), fun c hc => h.nice c (by simp at hc ⊢; rcases hc with hc | hc <;> simp [hc]), fun a ha' c hc => h.red a (by simp at ha' ⊢; rcases ha' with t | t <;> simp [t]) c (by simp at hc ⊢; rcases hc with t | t <;> simp [t])⟩
theorem way_start {M B : Nat} {D : Int} {row : List Int} (hr : Bd B (vec row)) (hD : D.natAbs ≤ M) : Way M B D (vec row) [] row :=
  ⟨by simp, .inl fun _ => rfl, ⟨1, 1, vzero, by decide, by decide, .zero, fun j => by simp [vzero]⟩, ⟨vmul D (vec row), vzero, .zero, fun j => by simp [vzero, vmul], by simp, fun j => by
    simp only [vmul, Int.natAbs_mul, List.length_nil, Nat.zero_add, Nat.one_mul]
    exact Nat.mul_le_mul hD (hr j)⟩⟩
theorem way_step {w M B : Nat} {D : Int} {r : Vec} {pre post : List (List Int)} {b cur : List Int} (h : Way M B D r pre cur) (hc : Can w (pre ++ b :: post)) (hl : cur.length = w) (hcr : Cram (pre ++ b :: post) M D) (hr : Bd B r) :
    Way M B D r (pre ++ [b]) (if vec cur (piv b) = 0 then cur else clearR cur b (piv b)) := by
  have hb : b ∈ pre ++ b :: post := by simp
  have hbl := hc.len b hb
  have hlb : cur.length = b.length := by rw [hl, hbl]
  have hpre : ∀ c ∈ pre, c ∈ pre ++ b :: post := fun c hcm => by simp [hcm]
  have hne : ∀ c ∈ pre, piv c < piv b := by
    have := hc.ech.asc
    rw [List.map_append, List.map_cons, List.pairwise_append] at this
    exact fun c hcm => this.2.2 _ (List.mem_map_of_mem hcm) _ (by simp)
  have hnb := hc.nice b hb
  refine ⟨fun c hcm => ?_, ?_, ?_, ?_⟩
  · rcases List.mem_append.mp hcm with hcm | hcm
    · have z := h.van c hcm
      have zb := hc.red b hb c (hpre c hcm) (by have := hne c hcm; omega)
      split
      · exact z
      · exact clear_keep hlb zb z
    · rw [List.mem_singleton.mp hcm]
      split
      · assumption
      · exact clear_z hlb _
  · split
    · exact h.how
    · by_cases z : ∀ j, vec (clearR cur b (piv b)) j = 0
      · exact .inr (.inr z)
      · obtain ⟨j, hj⟩ := Classical.not_forall.mp z
        exact .inr (.inl (clear_nice hlb hj))
  · obtain ⟨a, k, s, ha, hk, hs, e⟩ := h.sp
    split
    · exact ⟨a, k, s, ha, hk, Sp_append hs, e⟩
    · -- clearR = prim of cur * b_p - b * cur_p
      by_cases hg : gcdL (clearW cur b (piv b)) = 0
      · have ez : ∀ j, vec (clearR cur b (piv b)) j = 0 := fun j => prim_at.mpr (gcdL_0.mp hg j)
        have hbp := hnb.ne
        refine ⟨1, k * vec b (piv b), fun j => -(k * vec b (piv b) * r j), by decide, Int.mul_ne_zero hk hbp, ?_, fun j => by rw [ez j]; simp only; omega⟩
        have hw := gcdL_0.mp hg
        refine ((Sp.sub (vec b (piv b)) (a * vec cur (piv b)) (Sp_append hs) (Sr_mem (bs := pre ++ [b]) (b := b) (by simp))).cg fun j => ?_)
        have hj := hw j
        rw [clearW_at hlb] at hj
        have hj' : vec cur j * vec b (piv b) = vec b j * vec cur (piv b) := by omega
        have ej := e j
        have ejs : s j = a * vec cur j - k * r j := by omega
        rw [ejs, Int.mul_sub, Int.mul_left_comm, Int.mul_comm (vec b (piv b)) (vec cur j), hj', Int.mul_left_comm (vec b (piv b)) k, Int.mul_assoc k, Int.mul_assoc a, Int.mul_comm (vec cur (piv b)) (vec b j)]
        omega
      · obtain ⟨c, hcz, _, ec, _⟩ := prim_eq hg
        have hbp := hnb.ne
        refine ⟨a * c, k * vec b (piv b), fun j => vec b (piv b) * s j - (a * vec cur (piv b)) * vec b j, Int.mul_ne_zero ha hcz, Int.mul_ne_zero hk hbp, Sp.sub _ _ (Sp_append hs) (Sr_mem (bs := pre ++ [b]) (b := b) (by simp)), fun j => ?_⟩
        have q := ec j
        rw [clearW_at hlb] at q
        have ej := e j
        rw [Int.mul_assoc a c]
        show a * (c * vec (prim (clearW cur b (piv b))) j) = _
        rw [← q]
        simp only
        grind
  · obtain ⟨u, s, hs, e, z, bu⟩ := h.u
    obtain ⟨c, ec, bc⟩ := hcr.row b hb
    refine ⟨fun j => u j - r (piv b) * (c * vec b j), fun j => s j - (r (piv b) * c) * vec b j, ?_, fun j => ?_, fun d hd => ?_, fun j => ?_⟩
    · exact (Sp.sub 1 (r (piv b) * c) (Sp_append hs) (Sr_mem (bs := pre ++ [b]) (b := b) (by simp))).cg fun j => by rw [Int.one_mul]
    · simp only; rw [e j, Int.mul_assoc]; omega
    · have zs : s (piv b) = 0 := by
        refine (lin_at (piv b)).van (fun v hv => ?_) hs
        obtain ⟨x, hx, rfl⟩ := List.mem_map.mp hv
        exact hc.red x (hpre x hx) b hb (by have := hne x hx; omega)
      rcases List.mem_append.mp hd with hd | hd
      · have := hc.red b hb d (hpre d hd) (by have := hne d hd; omega)
        simp only
        rw [this, z d hd]; simp
      · rw [List.mem_singleton.mp hd]
        simp only
        rw [e (piv b), zs, ec, Int.mul_comm]; omega
    · have h1 := bu j
      have h2 := Nat.mul_le_mul (hr (piv b)) (bc j)
      rw [← Int.natAbs_mul, Nat.mul_comm B] at h2
      have h3 := Int.natAbs_sub_le (u j) (r (piv b) * (c * vec b j))
      simp only [List.length_append, List.length_cons, List.length_nil]
      have : (pre.length + 1 + 1) * (M * B) = (pre.length + 1) * (M * B) + M * B := by rw [Nat.add_mul (pre.length + 1), Nat.one_mul]
      simp only [Nat.zero_add] at *
      omega
theorem rem_bd {w M B N : Nat} {D : Int} {r : Vec} (hr : Bd B r) (hM : 1 ≤ M) : ∀ {post pre : List (List Int)} {cur : List Int}, Way M B D r pre cur → Can w (pre ++ post) → cur.length = w → Cram (pre ++ post) M D → 2 * ((pre ++ post).length * (M * B) * M) ≤ N →
    RemOk N cur post ∧ Bd (((pre ++ post).length + 1) * (M * B)) (vec (remR cur post))
  | [], pre, cur, h, hc, hl, hcr, hN => by
    rw [List.append_nil] at *
    exact ⟨trivial, h.bd hc hcr.ne hM hr⟩
  | b :: post, pre, cur, h, hc, hl, hcr, hN => by
    have hlb : cur.length = b.length := by rw [hl, hc.len b (by simp)]
    have st := way_step h hc hl hcr hr
    have e : pre ++ b :: post = (pre ++ [b]) ++ post := by simp
    have hl2 : (if vec cur (piv b) = 0 then cur else clearR cur b (piv b)).length = w := by
      split
      · exact hl
      · rw [clear_len hlb, hl]
    have hbd := h.bd hc.pre hcr.ne hM hr
    rw [e] at hc hcr hN
    obtain ⟨q1, q2⟩ := rem_bd hr hM st hc hl2 hcr hN
    rw [e]
    refine ⟨⟨fun _ => (clearW_bd hlb (piv b) hbd (hcr.bd b (by simp))).mono ?_, q1⟩, q2⟩
    refine Nat.le_trans ?_ hN
    apply Nat.mul_le_mul_left
    apply Nat.mul_le_mul_right
    apply Nat.mul_le_mul_right
    simp
/-- an extension's numbers stay below N -/
structure ExtOk (N : Nat) (bs : List (List Int)) (row : List Int) : Prop where
  rem : RemOk N row bs
  res : Bd N (vec (remR row bs))
  ins : ∀ b ∈ bs, vec b (piv (prim (remR row bs))) ≠ 0 → Bd N (vec (clearW b (prim (remR row bs)) (piv (prim (remR row bs)))))
theorem ext_bd {w M B N : Nat} {D : Int} {bs : List (List Int)} {row : List Int} (hc : Can w bs) (hl : row.length = w) (hcr : Cram bs M D) (hM : 1 ≤ M) (hr : Bd B (vec row)) (hN : 2 * ((bs.length + 1) * (M * B) * M) ≤ N) : ExtOk N bs row := by
  have st := way_start hr hcr.le
  have hN1 : 2 * (bs.length * (M * B) * M) ≤ N := by
    refine Nat.le_trans ?_ hN
    apply Nat.mul_le_mul_left
    apply Nat.mul_le_mul_right
    apply Nat.mul_le_mul_right
    omega
  obtain ⟨q1, q2⟩ := rem_bd (pre := []) (post := bs) hr hM st hc hl hcr hN1
  simp only [List.nil_append] at q1 q2
  have hrl : (remR row bs).length = w := rem_len hc.len hl
  refine ⟨q1, q2.mono ?_, fun b hb _ => ?_⟩
  · refine Nat.le_trans ?_ hN
    have : (bs.length + 1) * (M * B) ≤ (bs.length + 1) * (M * B) * M := Nat.le_mul_of_pos_right _ hM
    omega
  · have hp : Bd ((bs.length + 1) * (M * B)) (vec (prim (remR row bs))) := fun j => Nat.le_trans (prim_le _ j) (q2 j)
    refine (clearW_bd (by rw [prim_len, hrl, hc.len b hb]) _ (hcr.bd b hb) hp).mono ?_
    rw [Nat.mul_comm M]
    exact hN
end LA

/-! LA6: the rank by whole elimination steps (each division is exact). -/
namespace LA
theorem sylvester {cs : List Nat} {hs : List Vec} {h u : Vec} {c : Nat} (hp : det (c :: cs) (h :: hs) ≠ 0) (j : Nat) :
    det cs hs * bord (c :: cs) (h :: hs) u j = det (c :: cs) (h :: hs) * bord cs hs u j - bord cs hs u c * bord cs hs h j := by
  have e1 := fun j => bord_eq (c :: cs) (h :: hs) u j
  have e2 := fun j => bord_eq cs hs u j
  have e3 := fun j => bord_eq cs hs h j
  have s1 : Sl (h :: hs) (fun j => ex (fun y r => y j * det (c :: cs) (u :: r)) (h :: hs)) := ex_sp (fun r => det (c :: cs) (u :: r)) fun x hx => .mem hx
  have s2 : Sl (h :: hs) (fun j => ex (fun y r => y j * det cs (u :: r)) hs) := ex_sp (fun r => det cs (u :: r)) fun x hx => .mem (by simp [hx])
  have s3 : Sl (h :: hs) (fun j => ex (fun y r => y j * det cs (h :: r)) hs) := ex_sp (fun r => det cs (h :: r)) fun x hx => .mem (by simp [hx])
  have sh : Sl (h :: hs) h := .mem (by simp)
  have hc : bord cs hs h c = det (c :: cs) (h :: hs) := rfl
  have z1 : ∀ q ∈ c :: cs, bord (c :: cs) (h :: hs) u q = 0 := fun q hq => bord_at hq
  have z2 : ∀ q ∈ cs, bord cs hs u q = 0 := fun q hq => bord_at hq
  have z3 : ∀ q ∈ cs, bord cs hs h q = 0 := fun q hq => bord_at hq
  generalize hA : (fun j => ex (fun y r => y j * det (c :: cs) (u :: r)) (h :: hs)) = A at s1
  generalize hB : (fun j => ex (fun y r => y j * det cs (u :: r)) hs) = B at s2
  generalize hC : (fun j => ex (fun y r => y j * det cs (h :: r)) hs) = C at s3
  have e1' : ∀ j, bord (c :: cs) (h :: hs) u j = u j * det (c :: cs) (h :: hs) - A j := fun j => by rw [e1 j, ← hA]
  have e2' : ∀ j, bord cs hs u j = u j * det cs hs - B j := fun j => by rw [e2 j, ← hB]
  have e3' : ∀ j, bord cs hs h j = h j * det cs hs - C j := fun j => by rw [e3 j, ← hC]
  generalize hP : det (c :: cs) (h :: hs) = P at *
  generalize hD : det cs hs = D at *
  generalize hX : bord (c :: cs) (h :: hs) u = X at *
  generalize hY : bord cs hs u = Y at *
  generalize hZ : bord cs hs h = Z at *
  -- the difference lies in the rows' span and vanishes at the columns
  have sE : Sl (h :: hs) (fun j => D * X j - P * Y j + Y c * Z j) := by
    have q1 := Sp.sub P D s2 s1
    have q2 := Sp.sub (Y c * D) (Y c) sh s3
    refine (q1.add q2).cg fun j => ?_
    simp only [vadd]
    rw [e1' j, e2' j, e3' j]
    grind
  have zE : ∀ q ∈ c :: cs, D * X q - P * Y q + Y c * Z q = 0 := by
    intro q hq
    rw [z1 q hq]
    rcases List.mem_cons.mp hq with rfl | hq
    · rw [hc]; grind
    · rw [z2 q hq, z3 q hq]; simp
  have l : bord (c :: cs) (h :: hs) (fun j => D * X j - P * Y j + Y c * Z j) j = 0 :=
    (lin_det (j :: c :: cs) (h :: hs)).van (fun r hr => det_mem hr) sE
  rw [bord_van zE, hP] at l
  rcases Int.mul_eq_zero.mp l with t | t
  · omega
  · exact absurd t hp
def findP (c : Nat) : List (List Int) → Option Nat
  | [] => none
  | r :: rs => if vec r c ≠ 0 then some 0 else (findP c rs).map (· + 1)
def swapP (rest : List (List Int)) (at_ : Nat) : List (List Int) := (rest.set at_ (rest.headD [])).tail
def barStep (c : Nat) (head : List Int) (last : Int) (r : List Int) : List Int := List.zipWith (fun e h => (vec head c * e - vec r c * h) / last) r head
def barR : List Nat → List (List Int) → Int → Nat
  | [], _, _ => 0
  | c :: cols, rest, last => match findP c rest with
    | none => barR cols rest last
    | some at_ => 1 + barR cols ((swapP rest at_).map (barStep c (rest[at_]?.getD []) last)) (vec (rest[at_]?.getD []) c)
def BarOk (S L : Nat) : List Nat → List (List Int) → Int → Prop
  | [], _, _ => True
  | c :: cols, rest, last => match findP c rest with
    | none => BarOk S L cols rest last
    | some at_ => last ≠ 0 ∧ last.natAbs ≤ L ∧ (∀ r ∈ rest, Bd S (vec r)) ∧ (∀ r ∈ swapP rest at_, ∀ j, last ∣ vec (rest[at_]?.getD []) c * vec r j - vec r c * vec (rest[at_]?.getD []) j) ∧
      BarOk S L cols ((swapP rest at_).map (barStep c (rest[at_]?.getD []) last)) (vec (rest[at_]?.getD []) c)
theorem find_none {c : Nat} : ∀ {rest : List (List Int)}, findP c rest = none → ∀ r ∈ rest, vec r c = 0
  | [], _, r, hr => by simp at hr
  | x :: rs, h, r, hr => by
    unfold findP at h
    split at h
    · cases h
    · rename_i q
      rcases List.mem_cons.mp hr with rfl | hr
      · omega
      · exact find_none (by simpa using h) r hr
theorem find_some {c : Nat} : ∀ {rest : List (List Int)} {i : Nat}, findP c rest = some i → ∃ r, rest[i]? = some r ∧ vec r c ≠ 0
  | [], i, h => by simp [findP] at h
  | x :: rs, i, h => by
    unfold findP at h
    split at h
    · cases h; rename_i q; exact ⟨x, rfl, q⟩
    · cases e : findP c rs with
      | none => rw [e] at h; simp at h
      | some k =>
        rw [e] at h
        simp at h
        obtain ⟨r, h1, h2⟩ := find_some e
        exact ⟨r, by rw [← h]; simpa using h1, h2⟩
theorem swap_mem {rest : List (List Int)} {i : Nat} {h : List Int} (hi : rest[i]? = some h) : ∀ r, r ∈ h :: swapP rest i ↔ r ∈ rest := by
  cases rest with
  | nil => simp at hi
  | cons x rs =>
    intro r
    unfold swapP
    cases i with
    | zero => simp at hi; subst hi; simp
    | succ i =>
      simp at hi
      simp only [List.headD_cons, List.set_cons_succ, List.tail_cons, List.mem_cons]
      have hlt := (List.getElem?_eq_some_iff.mp hi).1
      have e1 : rs = rs.take i ++ h :: rs.drop (i + 1) := by
        have := List.take_append_drop i rs
        rw [List.drop_eq_getElem_cons hlt, (List.getElem?_eq_some_iff.mp hi).2] at this
        exact this.symm
      have e2 : rs.set i x = rs.take i ++ x :: rs.drop (i + 1) := by rw [List.set_eq_take_append_cons_drop, if_pos hlt]
      rw [e2]
      have : r ∈ rs ↔ r ∈ rs.take i ∨ r = h ∨ r ∈ rs.drop (i + 1) := by
        have : r ∈ rs ↔ r ∈ rs.take i ++ h :: rs.drop (i + 1) := by rw [← e1]
        rw [this]; simp
      rw [this]
      simp only [List.mem_append, List.mem_cons]
      constructor
      · rintro (a | a | a | a) <;> simp [a]
      · rintro (a | a | a | a) <;> simp [a]
theorem swap_len {rest : List (List Int)} {i : Nat} : (swapP rest i).length = rest.length - 1 := by simp [swapP]
theorem barStep_at {w c : Nat} {head r : List Int} {last : Int} (hh : head.length = w) (hr : r.length = w) (j : Nat) : vec (barStep c head last r) j = (vec head c * vec r j - vec r c * vec head j) / last := by
  unfold barStep
  rw [vec_zip (by rw [hr, hh]) (fun e h => (vec head c * e - vec r c * h) / last) (by simp)]
theorem barStep_len {w c : Nat} {head r : List Int} {last : Int} (hh : head.length = w) (hr : r.length = w) : (barStep c head last r).length = w := by simp [barStep, hh, hr]
/-- where the elimination stands: each row is bordered -/
structure Bar (w : Nat) (R : Vec → Prop) (c : Nat) (cs : List Nat) (hs : List Vec) (rest : List (List Int)) (last : Int) : Prop where
  len : ∀ r ∈ rest, r.length = w
  sel : ∀ h ∈ hs, R h
  eq : cs.length = hs.length
  le : cs.length ≤ c
  row : ∀ r ∈ rest, ∃ u, R u ∧ ∀ j, vec r j = bord cs hs u j
  el : last = det cs hs
  ne : last ≠ 0
  low : ∀ r ∈ rest, ∀ j < c, vec r j = 0
theorem bar_step {w : Nat} {R : Vec → Prop} {c : Nat} {cs : List Nat} {hs : List Vec} {rest : List (List Int)} {last : Int} (h : Bar w R c cs hs rest last) {i : Nat} {head : List Int} (hi : rest[i]? = some head) (hc : vec head c ≠ 0) :
    (∀ r ∈ swapP rest i, ∀ j, last * vec (barStep c head last r) j = vec head c * vec r j - vec r c * vec head j) ∧ ∃ hd, Bar w R (c + 1) (c :: cs) (hd :: hs) ((swapP rest i).map (barStep c head last)) (vec head c) := by
  have hm := swap_mem hi
  have m0 : head ∈ rest := (hm head).mp (by simp)
  have hl := h.len head m0
  obtain ⟨hd, hR, eh⟩ := h.row head m0
  have hP : det (c :: cs) (hd :: hs) = vec head c := (eh c).symm
  have key : ∀ r ∈ swapP rest i, ∃ u, R u ∧ (∀ j, vec r j = bord cs hs u j) ∧ ∀ j, last * bord (c :: cs) (hd :: hs) u j = vec head c * vec r j - vec r c * vec head j := by
    intro r hr
    obtain ⟨u, hu, er⟩ := h.row r ((hm r).mp (by simp [hr]))
    refine ⟨u, hu, er, fun j => ?_⟩
    have := sylvester (cs := cs) (hs := hs) (h := hd) (u := u) (c := c) (by rw [hP]; exact hc) j
    rw [hP, ← h.el, ← er j, ← er c, ← eh j] at this
    exact this
  have val : ∀ r ∈ swapP rest i, ∀ u, (∀ j, last * bord (c :: cs) (hd :: hs) u j = vec head c * vec r j - vec r c * vec head j) → ∀ j, vec (barStep c head last r) j = bord (c :: cs) (hd :: hs) u j := by
    intro r hr u q j
    rw [barStep_at hl (h.len r ((hm r).mp (by simp [hr]))), ← q j, Int.mul_ediv_cancel_left _ h.ne]
  refine ⟨fun r hr j => ?_, hd, ⟨fun r hr => ?_, fun x hx => ?_, by simp [h.eq], by have := h.le; simp; omega, fun r hr => ?_, hP.symm, hc, fun r hr j hj => ?_⟩⟩
  · obtain ⟨u, _, _, q⟩ := key r hr
    rw [val r hr u q j, q j]
  · obtain ⟨r0, h0, rfl⟩ := List.mem_map.mp hr
    exact barStep_len hl (h.len r0 ((hm r0).mp (by simp [h0])))
  · rcases List.mem_cons.mp hx with rfl | hx
    · exact hR
    · exact h.sel x hx
  · obtain ⟨r0, h0, rfl⟩ := List.mem_map.mp hr
    obtain ⟨u, hu, _, q⟩ := key r0 h0
    exact ⟨u, hu, val r0 h0 u q⟩
  · obtain ⟨r0, h0, rfl⟩ := List.mem_map.mp hr
    have hm0 := (hm r0).mp (by simp [h0])
    rw [barStep_at hl (h.len r0 hm0)]
    by_cases e : j = c
    · subst e; rw [Int.mul_comm]; simp
    · rw [h.low r0 hm0 j (by omega), h.low head m0 j (by omega)]; simp
theorem Bar.bd {w : Nat} {R : Vec → Prop} {c : Nat} {cs : List Nat} {hs : List Vec} {rest : List (List Int)} {last : Int} (h : Bar w R c cs hs rest last) {B : Nat} (hB : 1 ≤ B) (hR : ∀ r, R r → Bd B r) : last.natAbs ≤ fact cs.length * B ^ cs.length ∧ ∀ r ∈ rest, Bd (fact (cs.length + 1) * B ^ (cs.length + 1)) (vec r) := by
  constructor
  · rw [h.el]
    exact det_le h.eq.symm fun r hr c _ => hR r (h.sel r hr) c
  · intro r hr j
    obtain ⟨u, hu, e⟩ := h.row r hr
    rw [e j]
    exact det_le (cs := j :: cs) (rows := u :: hs) (by simp [h.eq]) fun x hx c _ => by
      rcases List.mem_cons.mp hx with rfl | hx
      · exact hR _ hu c
      · exact hR x (h.sel x hx) c
theorem fact_mono {a b : Nat} (h : a ≤ b) : fact a ≤ fact b := by
  induction h with
  | refl => exact Nat.le_refl _
  | @step m _ ih => exact Nat.le_trans ih (by rw [fact]; exact Nat.le_mul_of_pos_left _ (by omega))
theorem minor_mono {B a b : Nat} (hB : 1 ≤ B) (h : a ≤ b) : fact a * B ^ a ≤ fact b * B ^ b := Nat.mul_le_mul (fact_mono h) (Nat.pow_le_pow_right hB h)
theorem bar_ok {w : Nat} {R : Vec → Prop} {B : Nat} (hB : 1 ≤ B) (hR : ∀ r, R r → Bd B r) : ∀ {n c : Nat} {cs : List Nat} {hs : List Vec} {rest : List (List Int)} {last : Int}, c + n = w → Bar w R c cs hs rest last →
    BarOk (fact w * B ^ w) (fact (w - 1) * B ^ (w - 1)) (List.range' c n) rest last ∧ ∃ (heads : List Vec) (ps : List Nat), Ech heads ps ∧ (∀ p ∈ ps, c ≤ p) ∧ heads.length = barR (List.range' c n) rest last ∧ ∀ u, Sl heads u ↔ Sr rest u
  | 0, c, cs, hs, rest, last, hw, h => by
    refine ⟨trivial, [], [], .nil, by simp, rfl, fun u => ⟨fun q => Sp.zero.cg fun j => (Sl_nil q j).symm, fun q => Sp.zero.cg fun j => ?_⟩⟩
    refine ((lin_at j).van (fun v hv => ?_) q).symm
    obtain ⟨r, hr, rfl⟩ := List.mem_map.mp hv
    by_cases hj : j < c
    · exact h.low r hr j hj
    · exact vec_out (by rw [h.len r hr]; omega)
  | n + 1, c, cs, hs, rest, last, hw, h => by
    have e : List.range' c (n + 1) = c :: List.range' (c + 1) n := rfl
    rw [e]
    unfold BarOk barR
    cases hf : findP c rest with
    | none =>
      simp only
      have hz := find_none hf
      obtain ⟨q1, heads, ps, q2, q3, q4, q5⟩ := bar_ok hB hR (n := n) (c := c + 1) (by omega) { h with
        le := by have := h.le; omega
        low := fun r hr j hj => by
          by_cases e : j = c
          · rw [e]; exact hz r hr
          · exact h.low r hr j (by omega) }
      exact ⟨q1, heads, ps, q2, fun p hp => by have := q3 p hp; omega, q4, q5⟩
    | some i =>
      simp only
      obtain ⟨head, hi, hc⟩ := find_some hf
      have eg : rest[i]?.getD [] = head := by rw [hi]; rfl
      rw [eg]
      obtain ⟨s1, hd, s2⟩ := bar_step h hi hc
      have hm := swap_mem hi
      have m0 : head ∈ rest := (hm head).mp (by simp)
      obtain ⟨b1, b2⟩ := h.bd hB hR
      obtain ⟨q1, heads, ps, q2, q3, q4, q5⟩ := bar_ok hB hR (n := n) (c := c + 1) (by omega) s2
      have hle := h.le
      have hle2 : cs.length ≤ w - 1 := by omega
      refine ⟨⟨h.ne, Nat.le_trans b1 (minor_mono hB hle2), fun r hr => (b2 r hr).mono (minor_mono hB (by omega)), fun r hr j => ⟨_, (s1 r hr j).symm⟩, q1⟩, vec head :: heads, c :: ps, .cons ⟨hc, fun j hj => h.low head m0 j hj⟩ (fun p hp => by have := q3 p hp; omega) q2, fun p hp => ?_, by simp [q4]; omega, fun u => ?_⟩
      · rcases List.mem_cons.mp hp with rfl | hp
        · exact Nat.le_refl _
        · have := q3 p hp; omega
      · constructor
        · intro q
          refine q.trans fun v hv => ?_
          rcases List.mem_cons.mp hv with rfl | hv
          · exact Sr_mem m0
          · refine ((q5 v).mp (.mem hv)).trans fun x hx => ?_
            obtain ⟨y, hy, rfl⟩ := List.mem_map.mp hx
            obtain ⟨r, hr, rfl⟩ := List.mem_map.mp hy
            refine .div h.ne ((Sp.sub (vec head c) (vec r c) (Sr_mem ((hm r).mp (by simp [hr]))) (Sr_mem m0)).cg fun j => ?_)
            exact (s1 r hr j).symm
        · intro q
          have hh : Sl (vec head :: heads) (vec head) := .mem (by simp)
          refine q.trans fun v hv => ?_
          obtain ⟨r, hr, rfl⟩ := List.mem_map.mp hv
          rcases List.mem_cons.mp ((hm r).mpr hr) with rfl | hr'
          · exact hh
          · have t : Sl (vec head :: heads) (vec (barStep c head last r)) := ((q5 _).mpr (Sr_mem (List.mem_map_of_mem hr'))).mono fun x hx => by simp [hx]
            refine .div hc ((Sp.sub last (-(vec r c)) t hh).cg fun j => ?_)
            rw [s1 r hr' j]
            simp only [vmul]
            rw [Int.neg_mul]; omega
/-- the rank of rows: as many as the canonical basis has -/
theorem rank_ok {w B : Nat} {rows : List (List Int)} (hB : 1 ≤ B) (hl : ∀ r ∈ rows, r.length = w) (hb : ∀ r ∈ rows, Bd B (vec r)) :
    BarOk (fact w * B ^ w) (fact (w - 1) * B ^ (w - 1)) (List.range' 0 w) rows 1 ∧ ∀ bs, Can w bs → (∀ u, Sr bs u ↔ Sr rows u) → barR (List.range' 0 w) rows 1 = bs.length := by
  obtain ⟨q1, heads, ps, q2, _, q4, q5⟩ := bar_ok (R := fun v => ∃ r ∈ rows, v = vec r) hB (fun v ⟨r, hr, e⟩ => by rw [e]; exact hb r hr) (n := w) (c := 0) (cs := []) (hs := []) (rest := rows) (last := 1) (by omega)
    ⟨hl, by simp, rfl, Nat.le_refl _, fun r hr => ⟨vec r, ⟨r, hr, rfl⟩, fun j => by simp [bord_eq, ex_nil, det_nil_nil]⟩, rfl, by decide, by omega⟩
  refine ⟨q1, fun bs hc s => ?_⟩
  have : ps = bs.map piv := q2.same hc.ech fun u => by rw [q5]; exact (s u).symm
  rw [← q4, q2.length, this]
  simp
end LA

/-! LA7: one bound for all bases of a width. -/
namespace LA
theorem Cram.mono {bs : List (List Int)} {M M' : Nat} {D : Int} (h : Cram bs M D) (l : M ≤ M') : Cram bs M' D := ⟨h.ne, Nat.le_trans h.le l, fun b hb => by
  obtain ⟨c, e, q⟩ := h.row b hb
  exact ⟨c, e, q.mono l⟩⟩
theorem can_full {w : Nat} {bs : List (List Int)} (h : Can w bs) (hl : bs.length = w) : Cram bs 1 1 := by
  have hp : bs.map piv = List.range w := by
    refine asc_full h.ech.asc List.pairwise_lt_range (fun x hx => ?_) (by simp [hl])
    obtain ⟨b, hb, rfl⟩ := List.mem_map.mp hx
    have := (h.nice b hb).lt
    rw [h.len b hb] at this
    simpa using this
  have key : ∀ b ∈ bs, ∀ j, j ≠ piv b → vec b j = 0 := by
    intro b hb j hj
    by_cases hw : j < w
    · have : j ∈ bs.map piv := by rw [hp]; simpa using hw
      obtain ⟨c, hc, rfl⟩ := List.mem_map.mp this
      exact h.red b hb c hc (fun e => hj e.symm)
    · exact vec_out (by rw [h.len b hb]; omega)
  have one : ∀ b ∈ bs, vec b (piv b) = 1 := by
    intro b hb
    have := (h.nice b hb).pr (vec b (piv b)).natAbs fun j => by
      by_cases e : j = piv b
      · rw [e]; exact Int.natAbs_dvd.mpr (Int.dvd_refl _)
      · rw [key b hb j e]; exact Int.dvd_zero _
    have := (h.nice b hb).pos
    omega
  refine ⟨by decide, by decide, fun b hb => ⟨1, by rw [one b hb]; rfl, fun j => ?_⟩⟩
  show (1 * vec b j).natAbs ≤ 1
  rw [Int.one_mul]
  by_cases e : j = piv b
  · rw [e, one b hb]; decide
  · rw [key b hb j e]; decide
/-- the bound of a width's bases, by the bound of the rows -/
def MB (w B : Nat) : Nat := fact w * B ^ (w - 1)
theorem fact_pos (n : Nat) : 0 < fact n := by
  induction n with
  | zero => decide
  | succ n ih => rw [fact]; exact Nat.mul_pos (by omega) ih
theorem MB_pos {w B : Nat} (hB : 1 ≤ B) : 1 ≤ MB w B := Nat.mul_pos (fact_pos w) (Nat.pow_pos hB)
theorem asc_card {w : Nat} {bs : List (List Int)} (h : Can w bs) : bs.length ≤ w := by
  have h1 := asc_len (qs := List.range w) h.ech.asc (fun x hx => by
    obtain ⟨b, hb, rfl⟩ := List.mem_map.mp hx
    have := (h.nice b hb).lt
    rw [h.len b hb] at this
    simpa using this)
  simpa using h1
theorem can_MB {w : Nat} {bs : List (List Int)} (h : Can w bs) {R : Vec → Prop} {B : Nat} (hB : 1 ≤ B) (hR : ∀ r, R r → Bd B r) (s : ∀ u, Sr bs u ↔ Sp R u) : ∃ D, Cram bs (MB w B) D := by
  have hc := asc_card h
  by_cases e : bs.length = w
  · exact ⟨1, (can_full h e).mono (MB_pos hB)⟩
  · obtain ⟨D, q⟩ := can_cram h hR s
    refine ⟨D, q.mono ?_⟩
    exact Nat.mul_le_mul (fact_mono hc) (Nat.pow_le_pow_right hB (by omega))
/-- what the numbers of an extension stay below -/
def NB (w B : Nat) : Nat := 2 * ((w + 1) * (MB w B * B) * MB w B)
theorem ext_NB {w B : Nat} {bs : List (List Int)} {row : List Int} {R : Vec → Prop} (h : Can w bs) (hl : row.length = w) (hB : 1 ≤ B) (hR : ∀ r, R r → Bd B r) (s : ∀ u, Sr bs u ↔ Sp R u) (hr : Bd B (vec row)) : ExtOk (NB w B) bs row ∧ ∀ b ∈ bs, Bd (MB w B) (vec b) := by
  obtain ⟨D, q⟩ := can_MB h hB hR s
  refine ⟨ext_bd h hl q (MB_pos hB) hr ?_, q.bd⟩
  unfold NB
  apply Nat.mul_le_mul_left
  apply Nat.mul_le_mul_right
  apply Nat.mul_le_mul_right
  have := asc_card h
  omega
theorem MB_le_NB {w B : Nat} (hB : 1 ≤ B) : MB w B ≤ NB w B := by
  have h1 := MB_pos (w := w) hB
  unfold NB
  have : 1 ≤ (w + 1) * (MB w B * B) := Nat.mul_pos (by omega) (Nat.mul_pos h1 hB)
  have := Nat.mul_le_mul_right (MB w B) this
  omega
theorem B_le_NB {w B : Nat} (hB : 1 ≤ B) : B ≤ NB w B := by
  have h1 := MB_pos (w := w) hB
  unfold NB
  have h2 : B ≤ MB w B * B := Nat.le_mul_of_pos_left _ h1
  have h3 : MB w B * B ≤ (w + 1) * (MB w B * B) := Nat.le_mul_of_pos_left _ (by omega)
  have h4 : (w + 1) * (MB w B * B) ≤ (w + 1) * (MB w B * B) * MB w B := Nat.le_mul_of_pos_right _ h1
  omega
/-! powers of two -/
theorem fact_pow : ∀ {n : Nat}, n ≤ 9 → fact n ≤ 2 ^ 19 := by
  intro n h
  exact Nat.le_trans (fact_mono h) (by decide)
theorem MB_pow {w b : Nat} (hw : w ≤ 9) : MB w (2 ^ b) ≤ 2 ^ (19 + b * (w - 1)) := by
  unfold MB
  rw [Nat.pow_add, Nat.pow_mul]
  exact Nat.mul_le_mul_right _ (fact_pow hw)
theorem NB_pow {w b : Nat} (hw : w ≤ 9) : NB w (2 ^ b) ≤ 2 ^ (43 + 2 * b * (w - 1) + b) := by
  have h := MB_pow (b := b) hw
  have h2 : w + 1 ≤ 2 ^ 4 := by omega
  have e : 2 ^ (43 + 2 * b * (w - 1) + b) = 2 * ((2 ^ 4 * (2 ^ (19 + b * (w - 1)) * 2 ^ b)) * 2 ^ (19 + b * (w - 1))) := by
    rw [← Nat.pow_add, ← Nat.pow_add, ← Nat.pow_add, ← Nat.pow_succ']
    congr 1
    rw [Nat.mul_assoc 2 b]
    omega
  rw [e]
  unfold NB
  apply Nat.mul_le_mul_left
  exact Nat.mul_le_mul (Nat.mul_le_mul h2 (Nat.mul_le_mul_right _ h)) h
theorem MB_mono {w B B' : Nat} (h : B ≤ B') : MB w B ≤ MB w B' := Nat.mul_le_mul_left _ (Nat.pow_le_pow_left h _)
theorem NB_mono {w B B' : Nat} (h : B ≤ B') : NB w B ≤ NB w B' := by
  unfold NB
  apply Nat.mul_le_mul_left
  exact Nat.mul_le_mul (Nat.mul_le_mul_left _ (Nat.mul_le_mul (MB_mono h) h)) (MB_mono h)
end LA

/-! LA8: elimination column by column (all rows cleared at once) ends with the canonical basis. -/
namespace LA
theorem way_all {w M B : Nat} {D : Int} {r : Vec} (hr : Bd B r) : ∀ {post pre : List (List Int)} {cur : List Int}, Way M B D r pre cur → Can w (pre ++ post) → cur.length = w → Cram (pre ++ post) M D → Way M B D r (pre ++ post) (remR cur post)
  | [], pre, cur, h, hc, hl, hcr => by rw [List.append_nil]; exact h
  | b :: post, pre, cur, h, hc, hl, hcr => by
    have hlb : cur.length = b.length := by rw [hl, hc.len b (by simp)]
    have st := way_step h hc hl hcr hr
    have e : pre ++ b :: post = (pre ++ [b]) ++ post := by simp
    have hl2 : (if vec cur (piv b) = 0 then cur else clearR cur b (piv b)).length = w := by
      split
      · exact hl
      · rw [clear_len hlb, hl]
    rw [e] at hc hcr ⊢
    exact way_all hr st hc hl2 hcr
/-- a row that stands for an original one modulo the basis -/
structure Rel (w : Nat) (done : List (List Int)) (o cur : List Int) : Prop where
  van : ∀ b ∈ done, vec cur (piv b) = 0
  how : (∀ j, vec cur j = vec o j) ∨ Nice cur ∨ ∀ j, vec cur j = 0
  sp : ∃ (a b : Int) (s : Vec), a ≠ 0 ∧ b ≠ 0 ∧ Sr done s ∧ ∀ j, a * vec cur j = b * vec o j + s j
theorem Rel.bd {w M B : Nat} {D : Int} {done : List (List Int)} {o cur : List Int} (h : Rel w done o cur) (hc : Can w done) (hol : o.length = w) (hcr : Cram done M D) (hM : 1 ≤ M) (ho : Bd B (vec o)) : Bd ((done.length + 1) * (M * B)) (vec cur) := by
  have wy := way_all (pre := []) (post := done) ho (way_start ho hcr.le) hc hol hcr
  simp only [List.nil_append] at wy
  have wy' : Way M B D (vec o) done cur := ⟨h.van, h.how, h.sp, wy.u⟩
  exact wy'.bd hc hcr.ne hM ho
/-- where the elimination stands -/
structure Gj (w : Nat) (rows : List (List Int)) (c : Nat) (done rest : List (List Int)) : Prop where
  can : Can w done
  low : ∀ b ∈ done, piv b < c
  len : ∀ r ∈ rest, r.length = w
  zero : ∀ r ∈ rest, ∀ j < c, vec r j = 0
  span : ∀ u, Sr (done ++ rest) u ↔ Sr rows u
  sel : ∃ sel : List (List Int), (∀ r ∈ sel, r ∈ rows) ∧ ∀ u, Sr done u ↔ Sr sel u
  rel : ∀ r ∈ rest, ∃ o ∈ rows, Rel w done o r
def canR : List Nat → List (List Int) → List (List Int) → List (List Int)
  | [], done, _ => done
  | c :: cs, done, rest => match findP c rest with
    | none => canR cs done rest
    | some i => canR cs (done.map (clrB (prim (rest[i]?.getD []))) ++ [prim (rest[i]?.getD [])]) ((swapP rest i).map fun r => if vec r c = 0 then r else clearR r (prim (rest[i]?.getD [])) c)
def CanOk (N : Nat) : List Nat → List (List Int) → List (List Int) → Prop
  | [], _, _ => True
  | c :: cs, done, rest => match findP c rest with
    | none => CanOk N cs done rest
    | some i => (∀ r ∈ rest, Bd N (vec r)) ∧ (∀ b ∈ done, Bd N (vec b)) ∧ (∀ r ∈ done ++ swapP rest i, Bd N (vec (clearW r (prim (rest[i]?.getD [])) c))) ∧ piv (prim (rest[i]?.getD [])) = c ∧
      CanOk N cs (done.map (clrB (prim (rest[i]?.getD []))) ++ [prim (rest[i]?.getD [])]) ((swapP rest i).map fun r => if vec r c = 0 then r else clearR r (prim (rest[i]?.getD [])) c)
theorem ins_last {rest : List Int} : ∀ {bs : List (List Int)}, (∀ b ∈ bs, piv b < piv rest) → insR rest (piv rest) bs = bs.map (clrB rest) ++ [rest]
  | [], _ => rfl
  | b :: bs, h => by
    unfold insR
    have := h b (by simp)
    rw [if_neg (by omega), ins_last fun c hc => h c (by simp [hc])]
    rfl
theorem Sr_mono {bs bs' : List (List Int)} (h : ∀ b ∈ bs, b ∈ bs') {u : Vec} (hu : Sr bs u) : Sr bs' u := Sr_of (fun b hb => Sr_mem (h b hb)) hu
theorem gj_step {w : Nat} {rows : List (List Int)} {c : Nat} {done rest : List (List Int)} (h : Gj w rows c done rest) (hrl : ∀ r ∈ rows, r.length = w) {i : Nat} {hd : List Int} (hi : rest[i]? = some hd) (hc : vec hd c ≠ 0) :
    piv (prim hd) = c ∧ Nice (prim hd) ∧ Gj w rows (c + 1) (done.map (clrB (prim hd)) ++ [prim hd]) ((swapP rest i).map fun r => if vec r c = 0 then r else clearR r (prim hd) c) := by
  have hm := swap_mem hi
  have m0 : hd ∈ rest := (hm hd).mp (by simp)
  have hl := h.len hd m0
  have hg : gcdL hd ≠ 0 := fun e => hc (gcdL_0.mp e c)
  obtain ⟨hn, hpv⟩ := prim_nice hg
  have hlead : Lead (vec hd) c := ⟨hc, fun j hj => h.zero hd m0 j hj⟩
  have hp : piv (prim hd) = c := by rw [hpv]; exact lead_piv hlead
  have hpl : (prim hd).length = w := by rw [prim_len, hl]
  have hzz : ∀ b ∈ done, piv b ≠ piv (prim hd) ∧ vec (prim hd) (piv b) = 0 := fun b hb => by
    have := h.low b hb
    refine ⟨by omega, ?_⟩
    exact prim_at.mpr (h.zero hd m0 _ this)
  have hins := ins_last (rest := prim hd) (bs := done) (fun b hb => by rw [hp]; exact h.low b hb)
  have hcan := ins_can hn hpl h.can hzz
  have hsp := fun R => ins_sp (R := R) hn hpl h.can
  rw [hins] at hcan hsp
  have hmem : ∀ x ∈ done.map (clrB (prim hd)) ++ [prim hd], x = prim hd ∨ ∃ b ∈ done, x = clrB (prim hd) b := fun x hx => by
    rcases List.mem_append.mp hx with hx | hx
    · obtain ⟨b, hb, rfl⟩ := List.mem_map.mp hx
      exact .inr ⟨b, hb, rfl⟩
    · exact .inl (List.mem_singleton.mp hx)
  have ps := prim_sp hd
  -- the new basis: the old one and the head
  have s1 : ∀ u, Sr done u → Sr (done.map (clrB (prim hd)) ++ [prim hd]) u := fun u hu => Sr_of ((hsp _).mp fun r hr => Sr_mem hr).2 hu
  have s2 : Sr (done.map (clrB (prim hd)) ++ [prim hd]) (vec (prim hd)) := ((hsp _).mp fun r hr => Sr_mem hr).1
  have s3 : Sr (done.map (clrB (prim hd)) ++ [prim hd]) (vec hd) := ps.2.trans fun r hm => by rw [List.mem_singleton.mp hm]; exact s2
  have s4 : ∀ R : Vec → Prop, Sp R (vec hd) → (∀ b ∈ done, Sp R (vec b)) → ∀ u, Sr (done.map (clrB (prim hd)) ++ [prim hd]) u → Sp R u := fun R r1 r2 u hu =>
    Sr_of ((hsp R).mpr ⟨ps.1.trans fun r hm => by rw [List.mem_singleton.mp hm]; exact r1, r2⟩) hu
  have hbc : vec (prim hd) c ≠ 0 := by rw [← hp]; exact hn.ne
  refine ⟨hp, hn, ⟨hcan, fun b hb => ?_, fun r hr => ?_, fun r hr j hj => ?_, fun u => ?_, ?_, fun r hr => ?_⟩⟩
  · rcases hmem b hb with rfl | ⟨b', hb', rfl⟩
    · omega
    · rw [(clrB_ok hn hpl (h.can.nice b' hb') (h.can.len b' hb') (hzz b' hb').1 (hzz b' hb').2).2.2.1]
      have := h.low b' hb'; omega
  · obtain ⟨x, hx, rfl⟩ := List.mem_map.mp hr
    have hxl := h.len x ((hm x).mp (by simp [hx]))
    split
    · exact hxl
    · rw [clear_len (by rw [hxl, hpl]), hxl]
  · obtain ⟨x, hx, rfl⟩ := List.mem_map.mp hr
    have hxm := (hm x).mp (by simp [hx])
    have hxl := h.len x hxm
    by_cases e : j = c
    · subst e
      split
      · assumption
      · exact clear_z (by rw [hxl, hpl]) _
    · have hjc : j < c := by omega
      split
      · exact h.zero x hxm j hjc
      · exact clear_keep (by rw [hxl, hpl]) (prim_at.mpr (h.zero hd m0 j hjc)) (h.zero x hxm j hjc)
  · rw [← h.span u]
    have key : ∀ (R : Vec → Prop), Sp R (vec (prim hd)) → ∀ x ∈ swapP rest i, (Sp R (vec x) ↔ Sp R (vec (if vec x c = 0 then x else clearR x (prim hd) c))) := fun R hR x hx => by
      have hxl := h.len x ((hm x).mp (by simp [hx]))
      split
      · exact Iff.rfl
      · have q := clear_sp (row := x) (base := prim hd) (by rw [hxl, hpl]) hbc hR
        exact ⟨q.1, q.2⟩
    constructor
    · have hh : Sp (· ∈ (done ++ rest).map vec) (vec (prim hd)) := ps.1.trans fun r hm => by rw [List.mem_singleton.mp hm]; exact Sr_mem (by simp [m0])
      refine Sr_of fun b hb => ?_
      rcases List.mem_append.mp hb with hb | hb
      · exact s4 _ (Sr_mem (by simp [m0])) (fun b hb => Sr_mem (by simp [hb])) _ (Sr_mem hb)
      · obtain ⟨x, hx, rfl⟩ := List.mem_map.mp hb
        exact (key _ hh x hx).mp (Sr_mem (by simp [(hm x).mp (by simp [hx])]))
    · have up : ∀ {u}, Sr (done.map (clrB (prim hd)) ++ [prim hd]) u → Sr (done.map (clrB (prim hd)) ++ [prim hd] ++ (swapP rest i).map fun r => if vec r c = 0 then r else clearR r (prim hd) c) u := fun hu => Sr_mono (fun b hb => List.mem_append_left _ hb) hu
      refine Sr_of fun b hb => ?_
      rcases List.mem_append.mp hb with hb | hb
      · exact up (s1 _ (Sr_mem hb))
      · rcases List.mem_cons.mp ((hm b).mpr hb) with rfl | hb'
        · exact up s3
        · exact (key _ (up s2) b hb').mpr (Sr_mem (List.mem_append_right _ (List.mem_map.mpr ⟨b, hb', rfl⟩)))
  · obtain ⟨sel, h1, h2⟩ := h.sel
    obtain ⟨o, ho, rl⟩ := h.rel hd m0
    obtain ⟨a, b, s, ha, hb, hs, e⟩ := rl.sp
    refine ⟨sel ++ [o], fun r hr => ?_, fun u => ⟨fun hu => ?_, fun hu => ?_⟩⟩
    · rcases List.mem_append.mp hr with hr | hr
      · exact h1 r hr
      · rw [List.mem_singleton.mp hr]; exact ho
    · refine s4 _ ?_ (fun b hb => Sr_mono (fun x hx => by simp [hx]) ((h2 _).mp (Sr_mem hb))) u hu
      refine .div ha (((Sp.smul b (Sr_mem (bs := sel ++ [o]) (b := o) (by simp))).add (Sr_mono (bs' := sel ++ [o]) (fun x hx => by simp [hx]) ((h2 _).mp hs))).cg fun j => ?_)
      simp only [vadd, vmul]
      exact (e j).symm
    · refine Sr_of (fun x hx => ?_) hu
      rcases List.mem_append.mp hx with hx | hx
      · exact s1 _ ((h2 _).mpr (Sr_mem hx))
      · rw [List.mem_singleton.mp hx]
        refine .div hb ((Sp.sub a 1 s3 (s1 _ hs)).cg fun j => ?_)
        simp only [vmul]
        have := e j
        omega
  · obtain ⟨x, hx, rfl⟩ := List.mem_map.mp hr
    have hxm := (hm x).mp (by simp [hx])
    have hxl := h.len x hxm
    obtain ⟨o, ho, rl⟩ := h.rel x hxm
    obtain ⟨a, b, s, ha, hb, hs, e⟩ := rl.sp
    have hlx : x.length = (prim hd).length := by rw [hxl, hpl]
    refine ⟨o, ho, ?_⟩
    have hvan : ∀ y : List Int, (∀ j < c + 1, vec y j = 0) → ∀ z ∈ done.map (clrB (prim hd)) ++ [prim hd], vec y (piv z) = 0 := fun y hy z hz => by
      rcases hmem z hz with rfl | ⟨b', hb', rfl⟩
      · exact hy _ (by omega)
      · rw [(clrB_ok hn hpl (h.can.nice b' hb') (h.can.len b' hb') (hzz b' hb').1 (hzz b' hb').2).2.2.1]
        exact hy _ (by have := h.low b' hb'; omega)
    by_cases hz : vec x c = 0
    · rw [if_pos hz]
      refine ⟨hvan x fun j hj => ?_, rl.how, ⟨a, b, s, ha, hb, s1 _ hs, e⟩⟩
      by_cases q : j = c
      · rw [q]; exact hz
      · exact h.zero x hxm j (by omega)
    · rw [if_neg hz]
      have hvx : ∀ j < c + 1, vec (clearR x (prim hd) c) j = 0 := fun j hj => by
        by_cases q : j = c
        · rw [q]; exact clear_z hlx _
        · exact clear_keep hlx (prim_at.mpr (h.zero hd m0 j (by omega))) (h.zero x hxm j (by omega))
      refine ⟨hvan _ hvx, ?_, ?_⟩
      · by_cases z : ∀ j, vec (clearR x (prim hd) c) j = 0
        · exact .inr (.inr z)
        · obtain ⟨j, hj⟩ := Classical.not_forall.mp z
          exact .inr (.inl (clear_nice hlx hj))
      · by_cases hgw : gcdL (clearW x (prim hd) c) = 0
        · have ez : ∀ j, vec (clearR x (prim hd) c) j = 0 := fun j => prim_at.mpr (gcdL_0.mp hgw j)
          refine ⟨1, b * vec (prim hd) c, fun j => -(b * vec (prim hd) c * vec o j), by decide, Int.mul_ne_zero hb hbc, ?_, fun j => by rw [ez j]; simp only; omega⟩
          refine ((Sp.sub (vec (prim hd) c) (a * vec x c) (s1 _ hs) s2).cg fun j => ?_)
          have hj := gcdL_0.mp hgw j
          rw [clearW_at hlx] at hj
          have ej := e j
          have ejs : s j = a * vec x j - b * vec o j := by omega
          rw [ejs]
          grind
        · obtain ⟨k, hk, _, ek, _⟩ := prim_eq hgw
          refine ⟨a * k, b * vec (prim hd) c, fun j => vec (prim hd) c * s j - (a * vec x c) * vec (prim hd) j, Int.mul_ne_zero ha hk, Int.mul_ne_zero hb hbc, Sp.sub _ _ (s1 _ hs) s2, fun j => ?_⟩
          have q := ek j
          rw [clearW_at hlx] at q
          have ej := e j
          show a * k * vec (prim (clearW x (prim hd) c)) j = _
          rw [Int.mul_assoc, ← q]
          simp only
          grind
/-- the bound of the numbers -/
def CB (w B : Nat) : Nat := 2 * (((w + 1) * (MB w B * B)) * ((w + 1) * (MB w B * B)))
theorem gj_bd {w B : Nat} {rows : List (List Int)} {c : Nat} {done rest : List (List Int)} (h : Gj w rows c done rest) (hB : 1 ≤ B) (hrl : ∀ r ∈ rows, r.length = w) (hb : ∀ r ∈ rows, Bd B (vec r)) : (∀ b ∈ done, Bd ((w + 1) * (MB w B * B)) (vec b)) ∧ ∀ r ∈ rest, Bd ((w + 1) * (MB w B * B)) (vec r) := by
  obtain ⟨sel, h1, h2⟩ := h.sel
  obtain ⟨D, q⟩ := can_MB h.can (R := (· ∈ sel.map vec)) hB (fun v hv => by
    obtain ⟨x, hx, rfl⟩ := List.mem_map.mp hv
    exact hb x (h1 x hx)) h2
  have hM := MB_pos (w := w) hB
  have hcard := asc_card h.can
  constructor
  · intro b hbm
    refine (q.bd b hbm).mono ?_
    have t1 : MB w B ≤ MB w B * B := Nat.le_mul_of_pos_right _ hB
    have t2 : MB w B * B ≤ (w + 1) * (MB w B * B) := Nat.le_mul_of_pos_left _ (by omega)
    omega
  · intro r hr
    obtain ⟨o, ho, rl⟩ := h.rel r hr
    exact (rl.bd h.can (hrl o ho) q hM (hb o ho)).mono (Nat.mul_le_mul_right _ (by omega))
theorem canon_aux {w B : Nat} {rows : List (List Int)} (hB : 1 ≤ B) (hrl : ∀ r ∈ rows, r.length = w) (hb : ∀ r ∈ rows, Bd B (vec r)) : ∀ {n c : Nat} {done rest : List (List Int)}, c + n = w → Gj w rows c done rest →
    CanOk (CB w B) (List.range' c n) done rest ∧ Can w (canR (List.range' c n) done rest) ∧ ∀ u, Sr (canR (List.range' c n) done rest) u ↔ Sr rows u
  | 0, c, done, rest, hw, h => by
    refine ⟨trivial, h.can, fun u => ?_⟩
    show Sr done u ↔ _
    rw [← h.span u]
    refine ⟨Sr_mono fun b hb => by simp [hb], Sr_of fun b hb => ?_⟩
    rcases List.mem_append.mp hb with hb | hb
    · exact Sr_mem hb
    · refine Sp.zero.cg fun j => ?_
      by_cases hj : j < c
      · exact (h.zero b hb j hj).symm
      · exact (vec_out (by rw [h.len b hb]; omega)).symm
  | n + 1, c, done, rest, hw, h => by
    have e : List.range' c (n + 1) = c :: List.range' (c + 1) n := rfl
    rw [e]
    unfold CanOk canR
    cases hf : findP c rest with
    | none =>
      simp only
      have hz := find_none hf
      refine canon_aux hB hrl hb (n := n) (c := c + 1) (by omega) { h with
        low := fun b hb => by have := h.low b hb; omega
        zero := fun r hr j hj => by
          by_cases q : j = c
          · rw [q]; exact hz r hr
          · exact h.zero r hr j (by omega) }
    | some i =>
      simp only
      obtain ⟨hd, hi, hc⟩ := find_some hf
      have eg : rest[i]?.getD [] = hd := by rw [hi]; rfl
      rw [eg]
      obtain ⟨hp, hn, st⟩ := gj_step h hrl hi hc
      obtain ⟨q1, q2, q3⟩ := canon_aux hB hrl hb (n := n) (c := c + 1) (by omega) st
      obtain ⟨b1, b2⟩ := gj_bd h hB hrl hb
      have hm := swap_mem hi
      have m0 : hd ∈ rest := (hm hd).mp (by simp)
      have hle : (w + 1) * (MB w B * B) ≤ CB w B := by
        have : 1 ≤ (w + 1) * (MB w B * B) := Nat.mul_pos (by omega) (Nat.mul_pos (MB_pos hB) hB)
        have := Nat.mul_le_mul_left ((w + 1) * (MB w B * B)) this
        unfold CB
        omega
      have hpb : Bd ((w + 1) * (MB w B * B)) (vec (prim hd)) := fun j => Nat.le_trans (prim_le _ j) (b2 hd m0 j)
      have hpl : (prim hd).length = w := by rw [prim_len, h.len hd m0]
      refine ⟨⟨fun r hr => (b2 r hr).mono hle, fun b hbm => (b1 b hbm).mono hle, fun r hr => ?_, hp, q1⟩, q2, q3⟩
      rcases List.mem_append.mp hr with hr | hr
      · exact clearW_bd (by rw [h.can.len r hr, hpl]) c (b1 r hr) hpb
      · have hrm := (hm r).mp (by simp [hr])
        exact clearW_bd (by rw [h.len r hrm, hpl]) c (b2 r hrm) hpb
theorem canon_ok {w B : Nat} {rows : List (List Int)} (hB : 1 ≤ B) (hrl : ∀ r ∈ rows, r.length = w) (hb : ∀ r ∈ rows, Bd B (vec r)) : CanOk (CB w B) (List.range' 0 w) [] rows ∧ canR (List.range' 0 w) [] rows = redR rows := by
  obtain ⟨q1, q2, q3⟩ := canon_aux hB hrl hb (n := w) (c := 0) (done := []) (rest := rows) (by omega) ⟨Can.nil w, by simp, hrl, fun _ _ _ h => absurd h (by omega), fun u => by simp, ⟨[], by simp, fun u => Iff.rfl⟩, fun r hr => ⟨r, hr, ⟨by simp, .inl fun _ => rfl, 1, 1, vzero, by decide, by decide, .zero, fun j => by simp [vzero]⟩⟩⟩
  exact ⟨q1, q2.uniq (red_can hrl) fun u => by rw [q3, red_span hrl]⟩
theorem CB_pow {w b : Nat} (hw : w ≤ 9) : CB w (2 ^ b) ≤ 2 ^ (47 + 2 * (b * (w - 1)) + 2 * b) := by
  have h := MB_pow (b := b) hw
  have h2 : w + 1 ≤ 2 ^ 4 := by omega
  have h3 : (w + 1) * (MB w (2 ^ b) * 2 ^ b) ≤ 2 ^ (4 + (19 + b * (w - 1) + b)) := by
    rw [Nat.pow_add, Nat.pow_add 2 (19 + b * (w - 1))]
    exact Nat.mul_le_mul h2 (Nat.mul_le_mul_right _ h)
  have e : 2 ^ (47 + 2 * (b * (w - 1)) + 2 * b) = 2 * (2 ^ (4 + (19 + b * (w - 1) + b)) * 2 ^ (4 + (19 + b * (w - 1) + b))) := by
    rw [← Nat.pow_add, ← Nat.pow_succ']
    congr 1
    omega
  rw [e]
  unfold CB
  exact Nat.mul_le_mul_left _ (Nat.mul_le_mul h3 h3)
end LA

namespace K03
open PySem PySem.Spec PyProof.Rows L2 FL
def topS (i : Nat) : Stmt := PySem.Challenge.pw_latecomers_k03_vector_in_a_space.main.body.getD i (.Pass ⟨0, 0, 0, 0⟩)
def clsS (i j : Nat) : Stmt := match topS i with
  | .ClassDef _ _ _ b _ _ _ _ _ _ _ => b.getD j (.Pass ⟨0, 0, 0, 0⟩)
  | _ => .Pass ⟨0, 0, 0, 0⟩
abbrev i_is_integer : Nat := 0
abbrev i_is_index : Nat := 1
abbrev i_is_vector : Nat := 2
abbrev i_common_divisor : Nat := 3
abbrev i_pivot : Nat := 4
abbrev i_primitive : Nat := 5
abbrev i_cleared : Nat := 6
abbrev i_remainder : Nat := 7
abbrev i_contains : Nat := 8
abbrev i_is_space : Nat := 9
abbrev i_is_width : Nat := 10
abbrev i_width_of : Nat := 11
abbrev i_in_space : Nat := 12
abbrev i_l_pool : Nat := 13
abbrev i_l_draw : Nat := 14
abbrev i_l_divisor : Nat := 15
abbrev i_l_lowest : Nat := 16
abbrev i_l_canon : Nat := 17
abbrev i_l_rank : Nat := 18
abbrev i_l_entry : Nat := 19
abbrev i_l_vectors : Nat := 20
abbrev i_law : Nat := 21
abbrev s_is_integer : Stmt := topS 5
def b_is_integer : Ss := (.cons (.ret (.and (.cons (.isi (.var 0) (.bi "int")) (.cons (.not (.isi (.var 0) (.bi "bool"))) .nil)))) .nil)
def f_is_integer : Fn := ⟨((Str.ofString "is_integer"), none), [(Str.ofString "value")], [(Str.ofString "value")], [], b_is_integer⟩
abbrev s_is_index : Stmt := topS 6
def b_is_index : Ss := (.cons (.ret (.and (.cons (.call i_is_integer (.cons (.val (.var 0)) .nil)) (.cons (.chn .le .lt (.cst (.int 0)) (.var 0) (.var 1)) .nil)))) .nil)
def f_is_index : Fn := ⟨((Str.ofString "is_index"), none), [(Str.ofString "value"), (Str.ofString "many")], [(Str.ofString "value"), (Str.ofString "many")], [], b_is_index⟩
abbrev s_is_vector : Stmt := topS 7
def p_is_vector_l1 : Ss := (.cons (.ite (.not (.call i_is_integer (.cons (.val (.var 2)) .nil))) (.cons (.ret (.cst (.bl false))) .nil) .nil) .nil)
def b_is_vector : Ss := (.cons (.ite (.or (.cons (.not (.isi (.var 0) (.bi "list"))) (.cons (.cmp .ne (.blt .len (.cons (.var 0) .nil)) (.var 1)) .nil))) (.cons (.ret (.cst (.bl false))) .nil) .nil) (.cons (.loop (.name 2) (.seq (.var 0)) p_is_vector_l1) (.cons (.ret (.cst (.bl true))) .nil)))
def f_is_vector : Fn := ⟨((Str.ofString "is_vector"), none), [(Str.ofString "value"), (Str.ofString "width")], [(Str.ofString "value"), (Str.ofString "width"), (Str.ofString "entry")], [], b_is_vector⟩
abbrev s_common_divisor : Stmt := topS 9
def p_common_divisor_w2 : Ss := (.cons (.par [1, 3] (.cons (.var 3) (.cons (.bin .mod (.var 1) (.var 3)) .nil))) .nil)
def p_common_divisor_l1 : Ss := (.cons (.set (.name 3) (.blt .abs (.cons (.mov 2) .nil))) (.cons (.whl (.cmp .ne (.var 3) (.cst (.int 0))) p_common_divisor_w2) (.cons (.ite (.cmp .eq (.var 1) (.cst (.int 1))) (.cons (.ret (.cst (.int 1))) .nil) .nil) .nil)))
def b_common_divisor : Ss := (.cons (.set (.name 1) (.cst (.int 0))) (.cons (.loop (.name 2) (.seq (.var 0)) p_common_divisor_l1) (.cons (.ret (.mov 1)) .nil)))
def f_common_divisor : Fn := ⟨((Str.ofString "common_divisor"), none), [(Str.ofString "row")], [(Str.ofString "row"), (Str.ofString "divisor"), (Str.ofString "entry"), (Str.ofString "rest")], [], b_common_divisor⟩
abbrev s_pivot : Stmt := topS 10
def p_pivot_l1 : Ss := (.cons (.ite (.cmp .ne (.var 2) (.cst (.int 0))) (.cons (.ret (.mov 1)) .nil) .nil) .nil)
def b_pivot : Ss := (.cons (.loop (.names [1, 2]) (.enum (.var 0)) p_pivot_l1) (.cons (.ret (.neg (.cst (.int 1)))) .nil))
def f_pivot : Fn := ⟨((Str.ofString "pivot"), none), [(Str.ofString "row")], [(Str.ofString "row"), (Str.ofString "index"), (Str.ofString "entry")], [], b_pivot⟩
abbrev s_primitive : Stmt := topS 11
def p_primitive_c1 : E := (.bin .fdiv (.var 2) (.var 1))
def b_primitive : Ss := (.cons (.set (.name 1) (.shr (.call i_common_divisor (.cons (.val (.var 0)) .nil)))) (.cons (.ite (.cmp .eq (.var 1) (.cst (.int 0))) (.cons (.ret (.blt .list (.cons (.mov 0) .nil))) .nil) .nil) (.cons (.ite (.cmp .lt (.idx (.var 0) (.call i_pivot (.cons (.val (.var 0)) .nil))) (.cst (.int 0))) (.cons (.set (.name 1) (.neg (.var 1))) .nil) .nil) (.cons (.ret (.comp p_primitive_c1 (.name 2) (.seq (.var 0)) .no)) .nil))))
def f_primitive : Fn := ⟨((Str.ofString "primitive"), none), [(Str.ofString "row")], [(Str.ofString "row"), (Str.ofString "divisor"), (Str.ofString "entry")], [], b_primitive⟩
abbrev s_cleared : Stmt := topS 12
def p_cleared_c1 : E := (.bin .sub (.bin .mul (.var 3) (.idx (.var 1) (.var 2))) (.bin .mul (.var 4) (.idx (.var 0) (.var 2))))
def b_cleared : Ss := (.cons (.ret (.call i_primitive (.cons (.val (.shr (.comp p_cleared_c1 (.names [3, 4]) (.zip (.var 0) (.var 1)) .no))) .nil))) .nil)
def f_cleared : Fn := ⟨((Str.ofString "cleared"), none), [(Str.ofString "row"), (Str.ofString "base"), (Str.ofString "at")], [(Str.ofString "row"), (Str.ofString "base"), (Str.ofString "at"), (Str.ofString "entry"), (Str.ofString "other")], [], b_cleared⟩
abbrev s_remainder : Stmt := topS 13
def p_remainder_l1 : Ss := (.cons (.set (.name 3) (.shr (.call i_pivot (.cons (.val (.var 2)) .nil)))) (.cons (.ite (.cmp .ne (.idx (.var 0) (.var 3)) (.cst (.int 0))) (.cons (.set (.name 0) (.shr (.call i_cleared (.cons (.val (.var 0)) (.cons (.val (.shr (.mov 2))) (.cons (.val (.shr (.mov 3))) .nil)))))) .nil) .nil) .nil))
def b_remainder : Ss := (.cons (.loop (.name 2) (.seq (.var 1)) p_remainder_l1) (.cons (.ret (.mov 0)) .nil))
def f_remainder : Fn := ⟨((Str.ofString "remainder"), none), [(Str.ofString "row"), (Str.ofString "basis")], [(Str.ofString "row"), (Str.ofString "basis"), (Str.ofString "base"), (Str.ofString "at")], [], b_remainder⟩
abbrev s_contains : Stmt := topS 14
def b_contains : Ss := (.cons (.ret (.cmp .lt (.call i_pivot (.cons (.val (.shr (.call i_remainder (.cons (.val (.shr (.mov 1))) (.cons (.val (.shr (.mov 0))) .nil))))) .nil)) (.cst (.int 0)))) .nil)
def f_contains : Fn := ⟨((Str.ofString "contains"), none), [(Str.ofString "basis"), (Str.ofString "row")], [(Str.ofString "basis"), (Str.ofString "row")], [], b_contains⟩
abbrev s_is_space : Stmt := topS 15
def p_is_space_c2 : E := (.var 5)
def p_is_space_l1 : Ss := (.cons (.set (.name 4) (.shr (.call i_pivot (.cons (.val (.shr (.mov 3))) .nil)))) (.cons (.ite (.cmp .ne (.blt .len (.cons (.comp p_is_space_c2 (.name 5) (.seq (.var 0)) (.yes (.cmp .ne (.idx (.var 5) (.var 4)) (.cst (.int 0))))) .nil)) (.cst (.int 1))) (.cons (.ret (.cst (.bl false))) .nil) .nil) .nil))
def p_is_space_l3 : Ss := (.cons (.ite (.not (.call i_is_vector (.cons (.val (.var 3)) (.cons (.val (.var 1)) .nil)))) (.cons (.ret (.cst (.bl false))) .nil) .nil) (.cons (.set (.name 4) (.shr (.call i_pivot (.cons (.val (.var 3)) .nil)))) (.cons (.ite (.or (.cons (.cmp .le (.var 4) (.var 2)) (.cons (.cmp .lt (.idx (.var 3) (.var 4)) (.cst (.int 0))) (.cons (.cmp .ne (.call i_common_divisor (.cons (.val (.var 3)) .nil)) (.cst (.int 1))) .nil)))) (.cons (.ret (.cst (.bl false))) .nil) .nil) (.cons (.set (.name 2) (.shr (.mov 4))) .nil))))
def b_is_space : Ss := (.cons (.ite (.not (.isi (.var 0) (.bi "list"))) (.cons (.ret (.cst (.bl false))) .nil) .nil) (.cons (.set (.name 2) (.neg (.cst (.int 1)))) (.cons (.loop (.name 3) (.seq (.var 0)) p_is_space_l3) (.cons (.loop (.name 3) (.seq (.var 0)) p_is_space_l1) (.cons (.ret (.cst (.bl true))) .nil)))))
def f_is_space : Fn := ⟨((Str.ofString "is_space"), none), [(Str.ofString "value"), (Str.ofString "width")], [(Str.ofString "value"), (Str.ofString "width"), (Str.ofString "last"), (Str.ofString "row"), (Str.ofString "at"), (Str.ofString "other")], [], b_is_space⟩
abbrev s_is_width : Stmt := topS 16
def b_is_width : Ss := (.cons (.ret (.and (.cons (.call i_is_index (.cons (.val (.var 0)) (.cons (.val (.cst (.int 10))) .nil))) (.cons (.cmp .gt (.var 0) (.cst (.int 0))) .nil)))) .nil)
def f_is_width : Fn := ⟨((Str.ofString "is_width"), none), [(Str.ofString "value")], [(Str.ofString "value")], [], b_is_width⟩
abbrev s_width_of : Stmt := topS 17
def b_width_of : Ss := (.cons (.ite (.not (.isi (.var 0) (.bi "list"))) (.cons (.ret (.neg (.cst (.int 1)))) .nil) .nil) (.cons (.ite (.cmp .eq (.blt .len (.cons (.var 0) .nil)) (.cst (.int 0))) (.cons (.ret (.cst (.int 0))) .nil) .nil) (.cons (.ite (.or (.cons (.not (.isi (.idx (.var 0) (.cst (.int 0))) (.bi "list"))) (.cons (.not (.call i_is_width (.cons (.val (.blt .len (.cons (.idx (.var 0) (.cst (.int 0))) .nil))) .nil))) .nil))) (.cons (.ret (.neg (.cst (.int 1)))) .nil) .nil) (.cons (.ite (.not (.call i_is_space (.cons (.val (.var 0)) (.cons (.val (.blt .len (.cons (.idx (.var 0) (.cst (.int 0))) .nil))) .nil)))) (.cons (.ret (.neg (.cst (.int 1)))) .nil) .nil) (.cons (.ret (.blt .len (.cons (.idx (.mov 0) (.cst (.int 0))) .nil))) .nil)))))
def f_width_of : Fn := ⟨((Str.ofString "width_of"), none), [(Str.ofString "value")], [(Str.ofString "value")], [], b_width_of⟩
abbrev s_in_space : Stmt := topS 18
def b_in_space : Ss := (.cons (.set (.name 2) (.shr (.call i_width_of (.cons (.val (.var 0)) .nil)))) (.cons (.ite (.cmp .lt (.var 2) (.cst (.int 0))) (.cons .nev .nil) .nil) (.cons (.ite (.or (.cons (.not (.isi (.var 1) (.bi "list"))) (.cons (.not (.call i_is_width (.cons (.val (.blt .len (.cons (.var 1) .nil))) .nil))) (.cons (.not (.call i_is_vector (.cons (.val (.var 1)) (.cons (.val (.blt .len (.cons (.var 1) .nil))) .nil)))) .nil)))) (.cons .nev .nil) .nil) (.cons (.ite (.and (.cons (.cmp .gt (.var 2) (.cst (.int 0))) (.cons (.cmp .ne (.blt .len (.cons (.var 1) .nil)) (.var 2)) .nil))) (.cons .nev .nil) .nil) (.cons (.ret (.call i_contains (.cons (.val (.shr (.mov 0))) (.cons (.val (.shr (.mov 1))) .nil)))) .nil)))))
def f_in_space : Fn := ⟨((Str.ofString "in_space"), none), [(Str.ofString "space"), (Str.ofString "vector")], [(Str.ofString "space"), (Str.ofString "vector"), (Str.ofString "width")], [], b_in_space⟩
abbrev s_l_pool : Stmt := topS 20
def b_l_pool : Ss := (.cons (.set (.name 2) (.cst (.int 0))) (.cons (.ite (.cmp .lt (.var 1) (.blt .len (.cons (.var 0) .nil))) (.cons (.set (.name 2) (.shr (.idx (.mov 0) (.var 1)))) .nil) .nil) (.cons (.ite (.cmp .ge (.var 2) (.bin .pow (.cst (.int 10)) (.cst (.int 18)))) (.cons (.ret (.lst (.cons (.bin .sub (.mov 2) (.bin .pow (.cst (.int 10)) (.cst (.int 18)))) (.cons (.cst (.int 0)) (.cons (.cst (.int 0)) (.cons (.cst (.int 1)) .nil)))))) .nil) .nil) (.cons (.ret (.lst (.cons (.cst (.int 0)) (.cons (.cst (.int 0)) (.cons (.bin .mod (.blt .int (.cons (.bin .add (.mov 2) (.bin .mul (.cst (.int 104729)) (.mov 1))) .nil)) (.cst (.int 2147483647))) (.cons (.cst (.int 0)) .nil)))))) .nil))))
def f_l_pool : Fn := ⟨((Str.ofString "_law_pool"), none), [(Str.ofString "_law_script"), (Str.ofString "_law_place")], [(Str.ofString "_law_script"), (Str.ofString "_law_place"), (Str.ofString "_law_cell")], [], b_l_pool⟩
abbrev s_l_draw : Stmt := topS 21
def b_l_draw : Ss := (.cons (.ite (.cmp .eq (.idv 0 (.cst (.int 3))) (.cst (.int 1))) (.cons (.set (.name 3) (.bin .mod (.blt .int (.cons (.idv 0 (.cst (.int 0))) .nil)) (.var 1))) (.cons (.setI 0 (.cst (.int 0)) (.bin .fdiv (.blt .int (.cons (.idv 0 (.cst (.int 0))) .nil)) (.mov 1))) (.cons (.ret (.mov 3)) .nil))) .nil) (.cons (.setI 0 (.cst (.int 1)) (.bin .add (.idv 0 (.cst (.int 1))) (.cst (.int 1)))) (.cons (.set (.name 2) (.bin .mod (.bin .mul (.blt .int (.cons (.bin .add (.bin .add (.idv 0 (.cst (.int 2))) (.bin .mul (.cst (.int 7919)) (.idv 0 (.cst (.int 1))))) (.cst (.int 1))) .nil)) (.cst (.int 48271))) (.cst (.int 2147483647)))) (.cons (.set (.name 2) (.bin .mod (.bin .mul (.var 2) (.bin .add (.bin .fdiv (.var 2) (.cst (.int 1009))) (.cst (.int 69621)))) (.cst (.int 2147483647)))) (.cons (.set (.name 2) (.bin .mod (.bin .mul (.var 2) (.bin .add (.bin .fdiv (.var 2) (.cst (.int 2003))) (.cst (.int 40692)))) (.cst (.int 2147483399)))) (.cons (.ret (.bin .mod (.bin .fdiv (.mov 2) (.cst (.int 16))) (.mov 1))) .nil))))))
def f_l_draw : Fn := ⟨((Str.ofString "_law_draw"), none), [(Str.ofString "_law_pool_here"), (Str.ofString "_law_many")], [(Str.ofString "_law_pool_here"), (Str.ofString "_law_many"), (Str.ofString "_law_number"), (Str.ofString "_law_drawn")], [0], b_l_draw⟩
abbrev s_l_divisor : Stmt := topS 22
def p_l_divisor_w2 : Ss := (.cons (.set (.name 4) (.bin .mod (.blt .int (.cons (.mov 1) .nil)) (.var 3))) (.cons (.set (.name 1) (.mov 3)) (.cons (.set (.name 3) (.shr (.mov 4))) .nil)))
def p_l_divisor_l1 : Ss := (.cons (.set (.name 3) (.blt .abs (.cons (.mov 2) .nil))) (.cons (.whl (.cmp .ne (.var 3) (.cst (.int 0))) p_l_divisor_w2) .nil))
def b_l_divisor : Ss := (.cons (.set (.name 1) (.cst (.int 0))) (.cons (.loop (.name 2) (.seq (.var 0)) p_l_divisor_l1) (.cons (.ret (.mov 1)) .nil)))
def f_l_divisor : Fn := ⟨((Str.ofString "_law_divisor"), none), [(Str.ofString "_law_row")], [(Str.ofString "_law_row"), (Str.ofString "_law_one"), (Str.ofString "_law_entry_here"), (Str.ofString "_law_other"), (Str.ofString "_law_rest")], [], b_l_divisor⟩
abbrev s_l_lowest : Stmt := topS 23
def p_l_lowest_c1 : E := (.bin .fdiv (.var 3) (.var 1))
def p_l_lowest_c2 : E := (.var 3)
def b_l_lowest : Ss := (.cons (.set (.name 1) (.shr (.call i_l_divisor (.cons (.val (.var 0)) .nil)))) (.cons (.ite (.cmp .eq (.var 1) (.cst (.int 0))) (.cons (.ret (.blt .list (.cons (.mov 0) .nil))) .nil) .nil) (.cons (.set (.name 2) (.shr (.comp p_l_lowest_c2 (.name 3) (.seq (.var 0)) (.yes (.cmp .ne (.var 3) (.cst (.int 0))))))) (.cons (.ite (.cmp .lt (.idx (.var 2) (.cst (.int 0))) (.cst (.int 0))) (.cons (.set (.name 1) (.neg (.var 1))) .nil) .nil) (.cons (.ret (.comp p_l_lowest_c1 (.name 3) (.seq (.var 0)) .no)) .nil)))))
def f_l_lowest : Fn := ⟨((Str.ofString "_law_lowest"), none), [(Str.ofString "_law_row")], [(Str.ofString "_law_row"), (Str.ofString "_law_divisor_here"), (Str.ofString "_law_signs"), (Str.ofString "_law_entry_here")], [], b_l_lowest⟩
abbrev s_l_canon : Stmt := topS 24
def p_l_canon_c3 : E := (.bin .sub (.idx (.var 9) (.var 11)) (.bin .mul (.var 8) (.idx (.var 7) (.var 11))))
def p_l_canon_c4 : E := (.bin .mul (.idx (.var 7) (.var 3)) (.var 10))
def p_l_canon_l2 : Ss := (.cons (.ite (.bor (.and (.cons (.cmp .ne (.var 5) (.var 2)) (.cons (.cmp .ne (.idx (.idx (.var 0) (.var 5)) (.var 3)) (.cst (.int 0))) .nil)))) (.cons (.set (.name 8) (.shr (.bor (.idx (.idx (.var 0) (.var 5)) (.var 3))))) (.cons (.set (.name 9) (.shr (.bor (.comp p_l_canon_c4 (.name 10) (.seq (.idx (.var 0) (.var 5))) .no)))) (.cons (.set (.name 9) (.shr (.comp p_l_canon_c3 (.name 11) (.rng (.var 1)) .no))) (.cons (.setI 0 (.mov 5) (.call i_l_lowest (.cons (.val (.shr (.mov 9))) .nil))) .nil)))) .nil) .nil)
def p_l_canon_l5 : Ss := (.cons (.ite (.bor (.and (.cons (.cmp .lt (.var 4) (.cst (.int 0))) (.cons (.cmp .ne (.idx (.idx (.var 0) (.var 5)) (.var 3)) (.cst (.int 0))) .nil)))) (.cons (.set (.name 4) (.shr (.mov 5))) .nil) .nil) .nil)
def p_l_canon_l1 : Ss := (.cons (.set (.name 4) (.neg (.cst (.int 1)))) (.cons (.loop (.name 5) (.rng2 (.var 2) (.lnv 0)) p_l_canon_l5) (.cons (.ite (.cmp .ge (.var 4) (.cst (.int 0))) (.cons (.set (.name 7) (.shr (.bor (.call i_l_lowest (.cons (.val (.shr (.idx (.var 0) (.var 4)))) .nil))))) (.cons (.setI 0 (.mov 4) (.idv 0 (.var 2))) (.cons (.setI 0 (.var 2) (.var 7)) (.cons (.loop (.name 5) (.rng (.lnv 0)) p_l_canon_l2) (.cons (.set (.name 2) (.shr (.bin .add (.var 2) (.cst (.int 1))))) .nil))))) .nil) .nil)))
def p_l_canon_c6 : E := (.blt .list (.cons (.var 6) .nil))
def b_l_canon : Ss := (.cons (.set (.name 0) (.bor (.comp p_l_canon_c6 (.name 6) (.seq (.var 0)) .no))) (.cons (.set (.name 2) (.cst (.int 0))) (.cons (.loop (.name 3) (.rng (.var 1)) p_l_canon_l1) (.cons (.ret (.slc (.mov 0) .no (.yes (.mov 2)))) .nil))))
def f_l_canon : Fn := ⟨((Str.ofString "_law_canon"), none), [(Str.ofString "_law_rows"), (Str.ofString "_law_width")], [(Str.ofString "_law_rows"), (Str.ofString "_law_width"), (Str.ofString "_law_done"), (Str.ofString "_law_col"), (Str.ofString "_law_at"), (Str.ofString "_law_k"), (Str.ofString "_law_row"), (Str.ofString "_law_head"), (Str.ofString "_law_factor"), (Str.ofString "_law_line"), (Str.ofString "_law_entry_here"), (Str.ofString "_law_j")], [], b_l_canon⟩
abbrev s_l_rank : Stmt := topS 25
def p_l_rank_c3 : E := (.bin .fdiv (.var 11) (.var 2))
def p_l_rank_c4 : E := (.bin .sub (.idx (.var 10) (.var 12)) (.bin .mul (.var 9) (.idx (.var 8) (.var 12))))
def p_l_rank_c5 : E := (.bin .mul (.idx (.var 8) (.var 4)) (.var 11))
def p_l_rank_l2 : Ss := (.cons (.set (.name 9) (.shr (.bor (.idx (.idx (.var 0) (.var 6)) (.var 4))))) (.cons (.set (.name 10) (.shr (.bor (.comp p_l_rank_c5 (.name 11) (.seq (.idx (.var 0) (.var 6))) .no)))) (.cons (.set (.name 10) (.shr (.comp p_l_rank_c4 (.name 12) (.rng (.var 3)) .no))) (.cons (.setI 0 (.mov 6) (.comp p_l_rank_c3 (.name 11) (.seq (.var 10)) .no)) .nil))))
def p_l_rank_l6 : Ss := (.cons (.ite (.bor (.and (.cons (.cmp .lt (.var 5) (.cst (.int 0))) (.cons (.cmp .ne (.idx (.idx (.var 0) (.var 6)) (.var 4)) (.cst (.int 0))) .nil)))) (.cons (.set (.name 5) (.shr (.mov 6))) .nil) .nil) .nil)
def p_l_rank_l1 : Ss := (.cons (.set (.name 5) (.neg (.cst (.int 1)))) (.cons (.loop (.name 6) (.rng2 (.var 1) (.lnv 0)) p_l_rank_l6) (.cons (.ite (.cmp .ge (.var 5) (.cst (.int 0))) (.cons (.set (.name 8) (.shr (.idv 0 (.var 5)))) (.cons (.setI 0 (.mov 5) (.idv 0 (.var 1))) (.cons (.setI 0 (.var 1) (.var 8)) (.cons (.loop (.name 6) (.rng2 (.bin .add (.var 1) (.cst (.int 1))) (.lnv 0)) p_l_rank_l2) (.cons (.set (.name 2) (.shr (.idx (.mov 8) (.mov 4)))) (.cons (.set (.name 1) (.shr (.bin .add (.var 1) (.cst (.int 1))))) .nil)))))) .nil) .nil)))
def p_l_rank_c7 : E := (.blt .list (.cons (.var 7) .nil))
def b_l_rank : Ss := (.cons (.set (.name 0) (.bor (.comp p_l_rank_c7 (.name 7) (.seq (.var 0)) .no))) (.cons (.set (.name 1) (.cst (.int 0))) (.cons (.set (.name 2) (.cst (.int 1))) (.cons (.ite (.bor (.cmp .eq (.blt .len (.cons (.var 0) .nil)) (.cst (.int 0)))) (.cons (.ret (.cst (.int 0))) .nil) .nil) (.cons (.set (.name 3) (.bor (.blt .len (.cons (.idx (.var 0) (.cst (.int 0))) .nil)))) (.cons (.loop (.name 4) (.rng (.var 3)) p_l_rank_l1) (.cons (.ret (.mov 1)) .nil)))))))
def f_l_rank : Fn := ⟨((Str.ofString "_law_rank"), none), [(Str.ofString "_law_rows")], [(Str.ofString "_law_rows"), (Str.ofString "_law_rank_here"), (Str.ofString "_law_last"), (Str.ofString "_law_width"), (Str.ofString "_law_col"), (Str.ofString "_law_at"), (Str.ofString "_law_k"), (Str.ofString "_law_row"), (Str.ofString "_law_head"), (Str.ofString "_law_factor"), (Str.ofString "_law_line"), (Str.ofString "_law_entry_here"), (Str.ofString "_law_j")], [], b_l_rank⟩
abbrev s_l_entry : Stmt := topS 26
def b_l_entry : Ss := (.cons (.set (.name 2) (.bin .sub (.call i_l_draw (.cons (.ref 0) (.cons (.val (.cst (.int 19))) .nil))) (.cst (.int 9)))) (.cons (.ite (.cmp .gt (.var 1) (.cst (.int 0))) (.cons (.set (.name 2) (.shr (.bin .add (.bin .mul (.var 2) (.mov 1)) (.call i_l_draw (.cons (.ref 0) (.cons (.val (.bin .pow (.cst (.int 10)) (.cst (.int 9)))) .nil)))))) .nil) .nil) (.cons (.ret (.mov 2)) .nil)))
def f_l_entry : Fn := ⟨((Str.ofString "_law_entry"), none), [(Str.ofString "_law_pool_here"), (Str.ofString "_law_big")], [(Str.ofString "_law_pool_here"), (Str.ofString "_law_big"), (Str.ofString "_law_value")], [0], b_l_entry⟩
abbrev s_l_vectors : Stmt := topS 27
def p_l_vectors_c2 : E := (.bin .add (.bin .mul (.var 11) (.idx (.var 9) (.var 13))) (.bin .mul (.var 12) (.idx (.var 10) (.var 13))))
def p_l_vectors_c3 : E := (.bin .sub (.call i_l_draw (.cons (.ref 7) (.cons (.val (.cst (.int 3))) .nil))) (.cst (.int 1)))
def p_l_vectors_c4 : E := (.call i_l_entry (.cons (.ref 7) (.cons (.val (.var 4)) .nil)))
def p_l_vectors_l1 : Ss := (.cons (.set (.name 7) (.call i_l_pool (.cons (.val (.var 0)) (.cons (.val (.shr (.bin .add (.var 1) (.mov 6)))) .nil)))) (.cons (.set (.name 8) (.shr (.call i_l_draw (.cons (.ref 7) (.cons (.val (.cst (.int 4))) .nil))))) (.cons (.ite (.bor (.and (.cons (.cmp .eq (.var 8) (.cst (.int 0))) (.cons (.cmp .gt (.blt .len (.cons (.var 5) .nil)) (.cst (.int 0))) .nil)))) (.cons (.set (.name 9) (.shr (.idv 5 (.call i_l_draw (.cons (.ref 7) (.cons (.val (.bor (.blt .len (.cons (.var 5) .nil)))) .nil)))))) (.cons (.set (.name 10) (.shr (.idv 5 (.call i_l_draw (.cons (.ref 7) (.cons (.val (.bor (.blt .len (.cons (.var 5) .nil)))) .nil)))))) (.cons (.set (.name 11) (.bin .sub (.call i_l_draw (.cons (.ref 7) (.cons (.val (.cst (.int 5))) .nil))) (.cst (.int 2)))) (.cons (.set (.name 12) (.bin .sub (.call i_l_draw (.cons (.ref 7) (.cons (.val (.cst (.int 5))) .nil))) (.cst (.int 2)))) (.cons (.app 5 (.comp p_l_vectors_c2 (.name 13) (.rng (.var 3)) .no)) .nil))))) (.cons (.ite (.cmp .eq (.var 8) (.cst (.int 1))) (.cons (.app 5 (.comp p_l_vectors_c3 (.name 13) (.rng (.var 3)) .no)) .nil) (.cons (.app 5 (.comp p_l_vectors_c4 (.name 13) (.rng (.var 3)) .no)) .nil)) .nil)) .nil)))
def b_l_vectors : Ss := (.cons (.set (.name 5) (.lst .nil)) (.cons (.loop (.name 6) (.rng (.var 2)) p_l_vectors_l1) (.cons (.ret (.mov 5)) .nil)))
def f_l_vectors : Fn := ⟨((Str.ofString "_law_vectors"), none), [(Str.ofString "_law_script"), (Str.ofString "_law_place"), (Str.ofString "_law_many"), (Str.ofString "_law_width"), (Str.ofString "_law_big")], [(Str.ofString "_law_script"), (Str.ofString "_law_place"), (Str.ofString "_law_many"), (Str.ofString "_law_width"), (Str.ofString "_law_big"), (Str.ofString "_law_rows"), (Str.ofString "_law_k"), (Str.ofString "_law_pool_here"), (Str.ofString "_law_style"), (Str.ofString "_law_one"), (Str.ofString "_law_other"), (Str.ofString "_law_left"), (Str.ofString "_law_right"), (Str.ofString "_law_j")], [], b_l_vectors⟩
abbrev s_law : Stmt := topS 28
def p_law_c1 : E := (.cmp .eq (.var 19) (.cst (.int 0)))
def p_law_c2 : E := (.blt .list (.cons (.var 11) .nil))
def p_law_c3 : E := (.bin .sub (.call i_l_draw (.cons (.ref 5) (.cons (.val (.cst (.int 7))) .nil))) (.cst (.int 3)))
def p_law_c5 : E := (.bin .add (.idx (.var 10) (.var 18)) (.bin .mul (.var 17) (.idx (.var 11) (.var 18))))
def p_law_l4 : Ss := (.cons (.set (.name 17) (.bin .sub (.call i_l_draw (.cons (.ref 5) (.cons (.val (.cst (.int 7))) .nil))) (.cst (.int 3)))) (.cons (.set (.name 10) (.bor (.comp p_law_c5 (.name 18) (.rng (.var 2)) .no))) .nil))
def b_law : Ss := (.cons (.set (.name 1) (.call i_l_pool (.cons (.val (.var 0)) (.cons (.val (.cst (.int 0))) .nil)))) (.cons (.set (.name 2) (.shr (.bin .add (.cst (.int 1)) (.call i_l_draw (.cons (.ref 1) (.cons (.val (.cst (.int 9))) .nil)))))) (.cons (.set (.name 3) (.idx (.lst (.cons (.cst (.int 0)) (.cons (.bin .pow (.bin .pow (.cst (.int 10)) (.cst (.int 55))) (.cst (.int 10))) .nil))) (.blt .int (.cons (.and (.cons (.cmp .eq (.call i_l_draw (.cons (.ref 1) (.cons (.val (.cst (.int 4))) .nil))) (.cst (.int 1))) (.cons (.cmp .le (.var 2) (.cst (.int 3))) .nil))) .nil)))) (.cons (.set (.name 4) (.shr (.call i_l_canon (.cons (.val (.shr (.call i_l_vectors (.cons (.val (.var 0)) (.cons (.val (.cst (.int 1))) (.cons (.val (.shr (.call i_l_draw (.cons (.ref 1) (.cons (.val (.cst (.int 7))) .nil))))) (.cons (.val (.var 2)) (.cons (.val (.shr (.mov 3))) .nil)))))))) (.cons (.val (.var 2)) .nil))))) (.cons (.set (.name 5) (.call i_l_pool (.cons (.val (.shr (.mov 0))) (.cons (.val (.cst (.int 7))) .nil)))) (.cons (.set (.name 6) (.shr (.call i_l_draw (.cons (.ref 5) (.cons (.val (.cst (.int 4))) .nil))))) (.cons (.set (.name 7) (.shr (.call i_l_draw (.cons (.ref 5) (.cons (.val (.cst (.int 2))) .nil))))) (.cons (.set (.name 8) (.shr (.call i_l_draw (.cons (.ref 5) (.cons (.val (.var 2)) .nil))))) (.cons (.set (.name 9) (.bin .sub (.call i_l_draw (.cons (.ref 5) (.cons (.val (.cst (.int 5))) .nil))) (.cst (.int 2)))) (.cons (.set (.name 10) (.bin .mul (.lst (.cons (.cst (.int 0)) .nil)) (.var 2))) (.cons (.loop (.name 11) (.seq (.var 4)) p_law_l4) (.cons (.ite (.cmp .eq (.var 6) (.cst (.int 1))) (.cons (.set (.name 10) (.comp p_law_c3 (.name 18) (.rng (.var 2)) .no)) .nil) .nil) (.cons (.ite (.cmp .eq (.var 6) (.cst (.int 2))) (.cons (.set (.name 10) (.call i_l_lowest (.cons (.val (.var 10)) .nil))) .nil) .nil) (.cons (.ite (.cmp .eq (.var 7) (.cst (.int 1))) (.cons (.setI 10 (.var 8) (.bin .add (.idv 10 (.var 8)) (.mov 9))) .nil) .nil) (.cons (.set (.name 12) (.shr (.comp p_law_c2 (.name 11) (.seq (.var 4)) .no))) (.cons (.set (.name 13) (.shr (.bor (.blt .list (.cons (.var 10) .nil))))) (.cons (.set (.name 14) (.call i_in_space (.cons (.val (.var 12)) (.cons (.val (.var 13)) .nil)))) (.cons (.ite (.bor (.or (.cons (.cmp .ne (.var 12) (.var 4)) (.cons (.cmp .ne (.var 13) (.var 10)) .nil)))) (.cons (.ret (.cst (.bl false))) .nil) .nil) (.cons (.set (.name 15) (.bor (.cmp .eq (.call i_l_rank (.cons (.val (.shr (.bin .add (.var 4) (.lst (.cons (.var 10) .nil))))) .nil)) (.blt .len (.cons (.var 4) .nil))))) (.cons (.set (.name 16) (.blt .all (.cons (.comp p_law_c1 (.name 19) (.seq (.var 10)) .no) .nil))) (.cons (.ite (.bor (.or (.cons (.cmp .ne (.call i_in_space (.cons (.val (.shr (.lst .nil))) (.cons (.val (.shr (.blt .list (.cons (.var 10) .nil)))) .nil))) (.var 16)) (.cons (.not (.isi (.var 14) (.bi "bool"))) .nil)))) (.cons (.ret (.cst (.bl false))) .nil) .nil) (.cons (.ret (.cmp .eq (.mov 14) (.mov 15))) .nil))))))))))))))))))))))
def f_law : Fn := ⟨((Str.ofString "law"), none), [(Str.ofString "_law_script")], [(Str.ofString "_law_script"), (Str.ofString "_law_pool_here"), (Str.ofString "_law_width"), (Str.ofString "_law_big"), (Str.ofString "_law_basis"), (Str.ofString "_law_other"), (Str.ofString "_law_choice"), (Str.ofString "_law_bent"), (Str.ofString "_law_at"), (Str.ofString "_law_step"), (Str.ofString "_law_vector"), (Str.ofString "_law_row"), (Str.ofString "_law_given"), (Str.ofString "_law_asked"), (Str.ofString "_law_actual"), (Str.ofString "_law_expected"), (Str.ofString "_law_zero"), (Str.ofString "_law_factor"), (Str.ofString "_law_j"), (Str.ofString "_law_entry_here")], [], b_law⟩
def T : Tab := ⟨[f_is_integer, f_is_index, f_is_vector, f_common_divisor, f_pivot, f_primitive, f_cleared, f_remainder, f_contains, f_is_space, f_is_width, f_width_of, f_in_space, f_l_pool, f_l_draw, f_l_divisor, f_l_lowest, f_l_canon, f_l_rank, f_l_entry, f_l_vectors, f_law], [], [], [], [], [], []⟩
noncomputable abbrev G (k : Nat) : FL.Ctx := ⟨run T k, runX T k, T.cs, T.ms, T.xt⟩
theorem r_is_integer (k : Nat) (ds : List D) : run T (k + 1) i_is_integer ds = runFn (G k) f_is_integer ds := run_eq rfl
theorem r_is_index (k : Nat) (ds : List D) : run T (k + 1) i_is_index ds = runFn (G k) f_is_index ds := run_eq rfl
theorem r_is_vector (k : Nat) (ds : List D) : run T (k + 1) i_is_vector ds = runFn (G k) f_is_vector ds := run_eq rfl
theorem r_common_divisor (k : Nat) (ds : List D) : run T (k + 1) i_common_divisor ds = runFn (G k) f_common_divisor ds := run_eq rfl
theorem r_pivot (k : Nat) (ds : List D) : run T (k + 1) i_pivot ds = runFn (G k) f_pivot ds := run_eq rfl
theorem r_primitive (k : Nat) (ds : List D) : run T (k + 1) i_primitive ds = runFn (G k) f_primitive ds := run_eq rfl
theorem r_cleared (k : Nat) (ds : List D) : run T (k + 1) i_cleared ds = runFn (G k) f_cleared ds := run_eq rfl
theorem r_remainder (k : Nat) (ds : List D) : run T (k + 1) i_remainder ds = runFn (G k) f_remainder ds := run_eq rfl
theorem r_contains (k : Nat) (ds : List D) : run T (k + 1) i_contains ds = runFn (G k) f_contains ds := run_eq rfl
theorem r_is_space (k : Nat) (ds : List D) : run T (k + 1) i_is_space ds = runFn (G k) f_is_space ds := run_eq rfl
theorem r_is_width (k : Nat) (ds : List D) : run T (k + 1) i_is_width ds = runFn (G k) f_is_width ds := run_eq rfl
theorem r_width_of (k : Nat) (ds : List D) : run T (k + 1) i_width_of ds = runFn (G k) f_width_of ds := run_eq rfl
theorem r_in_space (k : Nat) (ds : List D) : run T (k + 1) i_in_space ds = runFn (G k) f_in_space ds := run_eq rfl
theorem r_l_pool (k : Nat) (ds : List D) : run T (k + 1) i_l_pool ds = runFn (G k) f_l_pool ds := run_eq rfl
theorem r_l_draw (k : Nat) (ds : List D) : run T (k + 1) i_l_draw ds = runFn (G k) f_l_draw ds := run_eq rfl
theorem r_l_divisor (k : Nat) (ds : List D) : run T (k + 1) i_l_divisor ds = runFn (G k) f_l_divisor ds := run_eq rfl
theorem r_l_lowest (k : Nat) (ds : List D) : run T (k + 1) i_l_lowest ds = runFn (G k) f_l_lowest ds := run_eq rfl
theorem r_l_canon (k : Nat) (ds : List D) : run T (k + 1) i_l_canon ds = runFn (G k) f_l_canon ds := run_eq rfl
theorem r_l_rank (k : Nat) (ds : List D) : run T (k + 1) i_l_rank ds = runFn (G k) f_l_rank ds := run_eq rfl
theorem r_l_entry (k : Nat) (ds : List D) : run T (k + 1) i_l_entry ds = runFn (G k) f_l_entry ds := run_eq rfl
theorem r_l_vectors (k : Nat) (ds : List D) : run T (k + 1) i_l_vectors ds = runFn (G k) f_l_vectors ds := run_eq rfl
theorem r_law (k : Nat) (ds : List D) : run T (k + 1) i_law ds = runFn (G k) f_law ds := run_eq rfl
theorem ck_is_integer : defChk T f_is_integer (defBody s_is_integer) (defScope s_is_integer) = true := by decide +kernel
theorem ck_is_index : defChk T f_is_index (defBody s_is_index) (defScope s_is_index) = true := by decide +kernel
theorem ck_is_vector : defChk T f_is_vector (defBody s_is_vector) (defScope s_is_vector) = true := by decide +kernel
theorem ck_common_divisor : defChk T f_common_divisor (defBody s_common_divisor) (defScope s_common_divisor) = true := by decide +kernel
theorem ck_pivot : defChk T f_pivot (defBody s_pivot) (defScope s_pivot) = true := by decide +kernel
theorem ck_primitive : defChk T f_primitive (defBody s_primitive) (defScope s_primitive) = true := by decide +kernel
theorem ck_cleared : defChk T f_cleared (defBody s_cleared) (defScope s_cleared) = true := by decide +kernel
theorem ck_remainder : defChk T f_remainder (defBody s_remainder) (defScope s_remainder) = true := by decide +kernel
theorem ck_contains : defChk T f_contains (defBody s_contains) (defScope s_contains) = true := by decide +kernel
theorem ck_is_space : defChk T f_is_space (defBody s_is_space) (defScope s_is_space) = true := by decide +kernel
theorem ck_is_width : defChk T f_is_width (defBody s_is_width) (defScope s_is_width) = true := by decide +kernel
theorem ck_width_of : defChk T f_width_of (defBody s_width_of) (defScope s_width_of) = true := by decide +kernel
theorem ck_in_space : defChk T f_in_space (defBody s_in_space) (defScope s_in_space) = true := by decide +kernel
theorem ck_l_pool : defChk T f_l_pool (defBody s_l_pool) (defScope s_l_pool) = true := by decide +kernel
theorem ck_l_draw : defChk T f_l_draw (defBody s_l_draw) (defScope s_l_draw) = true := by decide +kernel
theorem ck_l_divisor : defChk T f_l_divisor (defBody s_l_divisor) (defScope s_l_divisor) = true := by decide +kernel
theorem ck_l_lowest : defChk T f_l_lowest (defBody s_l_lowest) (defScope s_l_lowest) = true := by decide +kernel
theorem ck_l_canon : defChk T f_l_canon (defBody s_l_canon) (defScope s_l_canon) = true := by decide +kernel
theorem ck_l_rank : defChk T f_l_rank (defBody s_l_rank) (defScope s_l_rank) = true := by decide +kernel
theorem ck_l_entry : defChk T f_l_entry (defBody s_l_entry) (defScope s_l_entry) = true := by decide +kernel
theorem ck_l_vectors : defChk T f_l_vectors (defBody s_l_vectors) (defScope s_l_vectors) = true := by decide +kernel
theorem ck_law : defChk T f_law (defBody s_law) (defScope s_law) = true := by decide +kernel
end K03

namespace K03
open FL
@[simp] theorem is_integer_int (k : Nat) (a : Int) : run T (k + 1) i_is_integer [.int a] = some (.bl true, [none]) := by
  rw [r_is_integer, runFn_eq rfl]; simp [f_is_integer, b_is_integer]
@[simp] theorem is_index_int (k : Nat) (a n : Int) : run T (k + 2) i_is_index [.int a, .int n] = some (.bl (decide (0 ≤ a) && decide (a < n)), [none, none]) := by
  rw [r_is_index, runFn_eq rfl]; simp [f_is_index, b_is_index]
  by_cases h : 0 ≤ a <;> simp [h]
theorem is_vector_row (k : Nat) (f : Fl) (xs : List Int) (n : Int) (hn : n = xs.length) : run T (k + 2) i_is_vector [.lst f (eI xs), .int n] = some (.bl true, [none, none]) := by
  subst hn
  rw [r_is_vector, runFn_eq rfl]; simp [f_is_vector, b_is_vector, eI_len, eqD_int, shares_ints]
  obtain ⟨x, e⟩ := forL_chk (i := 2) (ρ := [some (D.lst f.sh (eI xs)), some (D.int ↑xs.length), none]) (body := exSs (G (k + 1)) p_is_vector_l1) (items := eI xs) (x0 := none) (by simp) fun d hd => by
    obtain ⟨z, _, rfl⟩ := mem_eI hd
    exact ⟨some (.int z), by simp [p_is_vector_l1]⟩
  simp at e
  simp [e]
def small (xs : List Int) : Prop := ∀ x ∈ xs, -9 ≤ x ∧ x ≤ 9
def smalls (rs : List (List Int)) (n : Nat) : Prop := ∀ r ∈ rs, r.length = n ∧ small r
theorem shares_rows (f : Fl) (rs : List (List Int)) : shares (rs.map (eRow f)) = rs.map (eRow f.sh) := by
  have := share_rows f rs
  simp only [eRows, sh_lst, D.lst.injEq, true_and] at this
  exact this
def eStand (s : Int × List Int) : D := .tup [.int s.1, .tup (eI s.2)]
abbrev eMsg := eStand
@[simp] theorem share_eStand (s : Int × List Int) : share (eStand s) = eStand s := by simp [eStand, shares_ints]
/-- a message of the burdens -/
def MsgOk (bs : List Int) (m : Int × List Int) : Prop := ∃ j : Nat, m.1 = j ∧ bs[j]? = some (m.2.length : Int)
theorem MsgOk.lt {bs : List Int} {m : Int × List Int} (h : MsgOk bs m) : 0 ≤ m.1 ∧ m.1 < bs.length := by
  obtain ⟨j, e, g⟩ := h
  have := (List.getElem?_eq_some_iff.mp g).1
  omega
theorem MsgOk.at_ {bs : List Int} {m : Int × List Int} (h : MsgOk bs m) : L2.atI (eI bs) m.1 = some (.int m.2.length) := by
  obtain ⟨j, e, g⟩ := h
  rw [e, atI_nat, eI_get, g]; rfl
theorem shares_msgs (ms : List (Int × List Int)) : shares (ms.map eStand) = ms.map eStand := by
  rw [shares_eq, List.map_map]; apply List.map_congr_left; intro m _; exact share_eStand m
theorem enumL_mem : ∀ {n : Nat} {ds : List D} {d : D}, d ∈ enumL n ds → ∃ (i : Nat) (x : D), ds[i]? = some x ∧ d = .tup [.int ((n + i : Nat) : Int), x]
  | n, [], d, h => by simp [enumL] at h
  | n, y :: ds, d, h => by
    simp only [enumL, List.mem_cons] at h
    rcases h with rfl | h
    · exact ⟨0, y, rfl, by simp⟩
    · obtain ⟨i, x, e, rfl⟩ := enumL_mem h
      exact ⟨i + 1, x, by simpa using e, by congr 3; omega⟩
structure Rule where
  next : Int
  rows : List (List Int)
def eRule (f : Fl) (r : Rule) : D := .tup [.int r.next, .lst f (r.rows.map (eRow f))]
def eLine (f : Fl) (l : List Rule) : D := .lst f (l.map (eRule f))
def eRules (f : Fl) (rs : List (List Rule)) : List D := rs.map (eLine f)
def eShow (f : Fl) (rows : List (List Int)) : D := .lst f (rows.map (eRow f))
def eShows (f : Fl) (ss : List (List (List Int))) : List D := ss.map (eShow f)
@[simp] theorem share_eRow (f : Fl) (xs : List Int) : share (eRow f xs) = eRow f.sh xs := share_row f xs
@[simp] theorem share_eRule (f : Fl) (r : Rule) : share (eRule f r) = eRule f.sh r := by simp [eRule, shares_rows]
theorem shares_eRule (f : Fl) (l : List Rule) : shares (l.map (eRule f)) = l.map (eRule f.sh) := by
  rw [shares_eq, List.map_map]; apply List.map_congr_left; intro r _; exact share_eRule f r
@[simp] theorem share_eLine (f : Fl) (l : List Rule) : share (eLine f l) = eLine f.sh l := by simp [eLine, shares_eRule]
@[simp] theorem shares_eRules (f : Fl) (rs : List (List Rule)) : shares (eRules f rs) = eRules f.sh rs := by
  unfold eRules; rw [shares_eq, List.map_map]; apply List.map_congr_left; intro r _; exact share_eLine f r
@[simp] theorem share_eShow (f : Fl) (l : List (List Int)) : share (eShow f l) = eShow f.sh l := by simp [eShow, shares_rows]
@[simp] theorem shares_eShows (f : Fl) (rs : List (List (List Int))) : shares (eShows f rs) = eShows f.sh rs := by
  unfold eShows; rw [shares_eq, List.map_map]; apply List.map_congr_left; intro r _; exact share_eShow f r
@[simp] theorem eRules_len (f : Fl) (rs : List (List Rule)) : (eRules f rs).length = rs.length := by simp [eRules]
@[simp] theorem eShows_len (f : Fl) (rs : List (List (List Int))) : (eShows f rs).length = rs.length := by simp [eShows]
/-- the data of a listener -/
structure LD where
  bs : List Int
  rules : List (List Rule)
  shows : List (List (List Int))
  cells : Nat
structure LD.Ok (L : LD) : Prop where
  k1 : 1 ≤ L.bs.length
  k3 : L.bs.length ≤ 3
  b : ∀ x ∈ L.bs, 0 ≤ x ∧ x < 3
  n1 : 1 ≤ L.rules.length
  n3 : L.rules.length ≤ 3
  c1 : 1 ≤ L.cells
  c3 : L.cells ≤ 3
  line : ∀ l ∈ L.rules, l.length = L.bs.length ∧ ∀ (j : Nat) (r : Rule), l[j]? = some r → 0 ≤ r.next ∧ r.next < L.rules.length ∧ r.rows.length = L.cells ∧ ∀ b : Int, L.bs[j]? = some b → ∀ w ∈ r.rows, (w.length : Int) = 1 + L.cells + b ∧ small w
  sh : L.shows.length = L.rules.length
  shw : ∀ s ∈ L.shows, s.length ≤ 2 ∧ smalls s (1 + L.cells)
theorem LD.Ok.first {L : LD} (h : L.Ok) : ∃ l ls r rs, L.rules = l :: ls ∧ l = r :: rs ∧ r.rows.length = L.cells := by
  cases e : L.rules with
  | nil => have := h.n1; rw [e] at this; simp at this
  | cons l ls =>
    have hl := h.line l (by rw [e]; simp)
    cases e2 : l with
    | nil => have := h.k1; rw [← hl.1, e2] at this; simp at this
    | cons r rs =>
      have := (hl.2 0 r (by rw [e2]; rfl)).2.2.1
      exact ⟨_, ls, r, rs, rfl, rfl, this⟩
theorem mulOk_small {a b : Int} (h : -9 ≤ a ∧ a ≤ 9) : mulOk a b = true := by
  unfold mulOk
  have : a.natAbs < 2 ^ 64 := by omega
  simp [this]
def dotI (xs ys : List Int) : Int := (List.zipWith (· * ·) xs ys).sum
theorem str_ne1 : (PySem.Str.ofString "rules" = PySem.Str.ofString "burdens") = False := by decide +kernel
theorem str_ne2 : (PySem.Str.ofString "shows" = PySem.Str.ofString "burdens") = False := by decide +kernel
theorem str_ne3 : (PySem.Str.ofString "shows" = PySem.Str.ofString "rules") = False := by decide +kernel
/-- hearing, over plain data -/
def LD.rule (L : LD) (c j : Nat) : Rule := (L.rules.getD c []).getD j ⟨0, []⟩
def heardI (L : LD) (s m : Int × List Int) : Int × List Int :=
  let r := L.rule s.1.toNat m.1.toNat
  (r.next, r.rows.map fun w => dotI w (1 :: (s.2 ++ m.2)))
structure StandOk (L : LD) (s : Int × List Int) : Prop where
  lo : 0 ≤ s.1
  hi : s.1 < L.rules.length
  n : s.2.length = L.cells
theorem rule_at {L : LD} (h : L.Ok) {s m : Int × List Int} (hs : StandOk L s) (hm : MsgOk L.bs m) : ∃ l, L.rules[s.1.toNat]? = some l ∧ l[m.1.toNat]? = some (L.rule s.1.toNat m.1.toNat) ∧ l ∈ L.rules := by
  have a : s.1.toNat < L.rules.length := by have := hs.lo; have := hs.hi; omega
  have e1 : L.rules[s.1.toNat]? = some L.rules[s.1.toNat] := List.getElem?_eq_getElem a
  have hl := h.line _ (List.getElem_mem a)
  have b : m.1.toNat < L.rules[s.1.toNat].length := by rw [hl.1]; have := hm.lt; omega
  refine ⟨_, e1, ?_, List.getElem_mem a⟩
  rw [List.getElem?_eq_getElem b]
  unfold LD.rule
  simp [a, b]
end K03

namespace K03
open FL
theorem MsgOk.len {L : LD} (h : L.Ok) {m : Int × List Int} (hm : MsgOk L.bs m) : m.2.length ≤ 2 := by
  obtain ⟨j, e, g⟩ := hm
  have := h.b _ (List.mem_of_getElem? g)
  omega
theorem rows_sm {L : LD} (h : L.Ok) {s m : Int × List Int} (hs : StandOk L s) (hm : MsgOk L.bs m) : 0 ≤ (L.rule s.1.toNat m.1.toNat).next ∧ (L.rule s.1.toNat m.1.toNat).next < L.rules.length ∧ (L.rule s.1.toNat m.1.toNat).rows.length = L.cells ∧ ∀ w ∈ (L.rule s.1.toNat m.1.toNat).rows, small w ∧ w.length = 1 + (s.2.length + m.2.length) := by
  obtain ⟨l, e1, e2, e3⟩ := rule_at h hs hm
  have hl := h.line l e3
  obtain ⟨q1, q2, q3, q4⟩ := hl.2 m.1.toNat _ e2
  obtain ⟨j, ej, gj⟩ := hm
  have tj : m.1.toNat = j := by omega
  rw [tj] at q1 q2 q3 q4 ⊢
  refine ⟨q1, q2, q3, fun w hw => ?_⟩
  have := q4 _ gj w hw
  have := hs.n
  exact ⟨(q4 _ gj w hw).2, by omega⟩
def seenI (L : LD) (s : Int × List Int) : List Int := (L.shows.getD s.1.toNat []).map fun w => dotI w (1 :: s.2)
theorem show_at {L : LD} (h : L.Ok) (f : Fl) {s : Int × List Int} (hs : StandOk L s) : L2.atI (eShows f L.shows) s.1 = some (eShow f (L.shows.getD s.1.toNat [])) ∧ (L.shows.getD s.1.toNat []).length ≤ 2 ∧ smalls (L.shows.getD s.1.toNat []) (1 + L.cells) := by
  have a : s.1.toNat < L.shows.length := by rw [h.sh]; have := hs.lo; have := hs.hi; omega
  have hw := h.shw (L.shows.getD s.1.toNat []) (by rw [List.getD_eq_getElem?_getD, List.getElem?_eq_getElem a]; exact List.getElem_mem a)
  refine ⟨?_, hw.1, hw.2⟩
  obtain ⟨j, hj⟩ : ∃ j : Nat, s.1 = j := ⟨s.1.toNat, by have := hs.lo; omega⟩
  rw [hj] at a ⊢
  rw [atI_nat]; unfold eShows
  simp at a
  rw [List.getElem?_map, List.getElem?_eq_getElem a]; simp [a]
end K03

namespace K03
open FL
structure Pool where
  a : Int
  b : Int
  c : Int
  d : Int
def eP (p : Pool) : D := .lst .own [.int p.a, .int p.b, .int p.c, .int p.d]
theorem pool_ok (k : Nat) (f : Fl) (ns : List Int) (j : Nat) : ∃ p, run T (k + 1) i_l_pool [.lst f (eI ns), .int (j : Int)] = some (eP p, [none, none]) := by
  rw [r_l_pool, runFn_eq rfl]
  have m1 : mulOk 104729 (j : Int) = true := by simp [mulOk]
  by_cases hj : j < ns.length
  · have e : L2.atI (eI ns) (j : Int) = some (.int ns[j]) := by rw [atI_nat, eI_get, List.getElem?_eq_getElem hj]; rfl
    by_cases h : (1000000000000000000 : Int) ≤ ns[j]
    · exact ⟨⟨ns[j] - 1000000000000000000, 0, 0, 1⟩, by simp [f_l_pool, b_l_pool, hj, e, h, eP]⟩
    · exact ⟨⟨0, 0, (ns[j] + 104729 * j) % 2147483647, 0⟩, by simp [f_l_pool, b_l_pool, hj, e, h, eP, m1]⟩
  · exact ⟨⟨0, 0, (0 + 104729 * j) % 2147483647, 0⟩, by simp [f_l_pool, b_l_pool, hj, eP, m1]⟩
def dn (p : Pool) : Int :=
  let x := (p.c + 7919 * (p.b + 1) + 1) * 48271 % 2147483647
  let y := x * (x / 1009 + 69621) % 2147483647
  y * (y / 2003 + 40692) % 2147483399
theorem draw_ok (k : Nat) (p : Pool) (n : Int) (h0 : 0 < n) (h1 : n < 2 ^ 64) : ∃ v p', run T (k + 1) i_l_draw [eP p, .int n] = some (.int v, [some (eP p'), none]) ∧ 0 ≤ v ∧ v < n := by
  rw [r_l_draw, runFn_eq rfl]
  have l1 : n.natAbs.log2 < 9000 := log2_small (by omega)
  by_cases h : p.d = 1
  · refine ⟨p.a % n, ⟨p.a / n, p.b, p.c, p.d⟩, ?_, Int.emod_nonneg _ (by omega), Int.emod_lt_of_pos _ h0⟩
    simp [f_l_draw, b_l_draw, eP, h, eqD_int, h0, l1]
  · have m1 : mulOk 7919 (p.b + 1) = true := by simp [mulOk]
    have m2 : ∀ z : Int, mulOk z 48271 = true := fun z => by simp [mulOk]
    have m3 : ∀ z y : Int, mulOk (z % 2147483647) y = true := fun z y => by
      have : (z % 2147483647).natAbs < 2 ^ 64 := by omega
      simp [mulOk, this]
    have l3 : Nat.log2 1009 < 9000 := by decide +kernel
    have l4 : Nat.log2 2003 < 9000 := by decide +kernel
    have l5 : Nat.log2 16 < 9000 := by decide +kernel
    refine ⟨dn p / 16 % n, ⟨p.a, p.b + 1, p.c, p.d⟩, ?_, Int.emod_nonneg _ (by omega), Int.emod_lt_of_pos _ h0⟩
    simp [f_l_draw, b_l_draw, eP, h, eqD_int, h0, l1, m1, m2, m3, l3, l4, l5, dn]
end K03

namespace K03
open FL LA
/-! U1: divisors, first places, primitive rows. -/
def enumA {α : Type} (k : Nat) : List α → List (Nat × α)
  | [] => []
  | x :: xs => (k, x) :: enumA (k + 1) xs
theorem enumL_map {α : Type} (e : α → D) : ∀ (k : Nat) (xs : List α), enumL k (xs.map e) = (enumA k xs).map fun p => .tup [.int (p.1 : Int), e p.2]
  | _, [] => rfl
  | k, x :: xs => by simp only [List.map_cons, enumL, enumA, enumL_map e (k + 1) xs]
theorem nat_mod (a b : Nat) : (a : Int) % (b : Int) = ((a % b : Nat) : Int) := rfl
theorem absD_int (x : Int) : absD (.int x) = some (.int (x.natAbs : Int)) := by
  show some (D.int (if x < 0 then -x else x)) = _
  congr 2
  split <;> omega
theorem gcd_step (k : Nat) (x0 : Option D) (d r : Nat) : ∃ d' : Nat, whlD (evC (G k) (.yes (.cmp .ne (.var 3) (.cst (.int 0))))) (exSs (G k) p_common_divisor_w2) [x0, some (.int d), none, some (.int r)] = some (.nx [x0, some (.int d'), none, some (.int 0)]) ∧ d' = Nat.gcd d r := by
  obtain ⟨⟨d', r'⟩, e, hI, hc⟩ := whlD_ok (fun s : Nat × Nat => [x0, some (.int s.1), none, some (.int s.2)]) (fun s => s.2) (fun s => Nat.gcd s.1 s.2 = Nat.gcd d r) (fun s => !((s.2 : Int) == 0)) (cond := evC (G k) (.yes (.cmp .ne (.var 3) (.cst (.int 0))))) (body := exSs (G k) p_common_divisor_w2) (fun s _ => by
      obtain ⟨a, b⟩ := s
      simp [eqD_int]) (fun s hI hc => by
      obtain ⟨a, b⟩ := s
      simp at hc hI ⊢
      have hb : 0 < b := by omega
      refine ⟨b, a % b, ?_, ?_, Nat.mod_lt _ hb⟩
      · have hb' : (0 : Int) < (b : Int) := by omega
        simp [p_common_divisor_w2, hb, putAll]
      · rw [← hI, Nat.gcd_comm a b, Nat.gcd_comm b (a % b), ← Nat.gcd_rec]) (d, r) rfl
  simp at hc hI
  subst hc
  refine ⟨d', e, ?_⟩
  simpa using hI
theorem common_divisor_ok (k : Nat) (f : Fl) (xs : List Int) : run T (k + 1) i_common_divisor [.lst f (eI xs)] = some (.int (gcdL xs), [none]) := by
  rw [r_common_divisor, runFn_eq rfl]
  have main := forL_go (bind := bindT (.name 2)) (body := exSs (G k) p_common_divisor_l1) D.int (fun s : Nat × Option D × Option D => [some (.lst f.sh (eI xs)), some (.int s.1), s.2.1, s.2.2]) (fun l s => Nat.gcd s.1 (gcdL l) = gcdL xs) (fun d _ => d = .int (gcdL xs)) (fun a l s hI => by
    obtain ⟨d, e1, e2⟩ := s
    simp only at hI
    obtain ⟨d', e, hd⟩ := gcd_step k (some (.lst f.sh (eI xs))) d a.natAbs
    have hI' : Nat.gcd d' (gcdL l) = gcdL xs := by rw [hd, Nat.gcd_assoc]; exact hI
    by_cases h1 : d' = 1
    · subst h1
      refine .inr ⟨.int 1, [some (.lst f.sh (eI xs)), some (.int (1 : Nat)), none, some (.int 0)], ?_, ?_⟩
      · simp [p_common_divisor_l1, absD_int, e, eqD_int]
      · rw [← hI', Nat.gcd_one_left]; rfl
    · refine .inl ⟨(d', none, some (.int 0)), .inl ?_, hI'⟩
      have h1' : ¬ ((d' : Int) = 1) := by omega
      simp [p_common_divisor_l1, absD_int, e, eqD_int, h1']) xs (0, none, none) (by simp)
  rcases main with ⟨⟨d, e1, e2⟩, e, hI⟩ | ⟨d, ρ, e, hq⟩
  · simp [gcdL] at hI
    subst hI
    simp [f_common_divisor, b_common_divisor, shares_ints]
    simp [eI] at e ⊢
    rw [e]
    simp
  · subst hq
    simp [f_common_divisor, b_common_divisor, shares_ints]
    simp [eI] at e ⊢
    rw [e]
    simp
def pivI (xs : List Int) : Int := if piv xs < xs.length then (piv xs : Int) else -1
theorem pivot_ok (k : Nat) (f : Fl) (xs : List Int) : run T (k + 1) i_pivot [.lst f (eI xs)] = some (.int (pivI xs), [none]) := by
  rw [r_pivot, runFn_eq rfl]
  have main := forL_go (bind := bindT (.names [1, 2])) (body := exSs (G k) p_pivot_l1) (fun p : Nat × Int => .tup [.int (p.1 : Int), .int p.2]) (fun s : Option D × Option D => [some (.lst f.sh (eI xs)), s.1, s.2]) (fun l s => ∃ i rest, l = enumA i rest ∧ piv rest + i = piv xs ∧ rest.length + i = xs.length) (fun d _ => d = .int (pivI xs)) (fun a l s hI => by
    obtain ⟨i, rest, h1, h2, h3⟩ := hI
    cases rest with
    | nil => cases h1
    | cons x rest =>
      simp only [enumA, List.cons.injEq] at h1
      obtain ⟨rfl, rfl⟩ := h1
      by_cases hx : x = 0
      · subst hx
        refine .inl ⟨(some (.int i), some (.int 0)), .inl (by simp [p_pivot_l1, eqD_int, putAll]), i + 1, rest, rfl, ?_, ?_⟩
        · simp [piv] at h2; omega
        · simp at h3; omega
      · refine .inr ⟨.int i, [some (.lst f.sh (eI xs)), none, some (.int x)], by simp [p_pivot_l1, eqD_int, putAll, hx], ?_⟩
        have hp : piv xs = i := by simp [piv, hx] at h2; omega
        have hl : piv xs < xs.length := by simp at h3; omega
        rw [pivI, if_pos hl, hp]) (enumA 0 xs) (none, none) ⟨0, xs, rfl, rfl, rfl⟩
  rcases main with ⟨s, e, i, rest, h1, h2, h3⟩ | ⟨d, ρ, e, hq⟩
  · cases rest with
    | cons x rest => cases h1
    | nil =>
      have hp : ¬ (piv xs < xs.length) := by simp [piv] at h2 h3; omega
      have e0 := enumL_map D.int 0 xs
      simp [f_pivot, b_pivot, shares_ints]
      simp only [eI] at e ⊢
      rw [e0, e]
      simp [pivI, hp]
  · subst hq
    have e0 := enumL_map D.int 0 xs
    simp [f_pivot, b_pivot, shares_ints]
    simp only [eI] at e ⊢
    rw [e0, e]
    simp
/-- numbers that may be divided -/
def Fit (xs : List Int) : Prop := ∀ x ∈ xs, x.natAbs.log2 < 13530
theorem fit_mul {a b : Int} (ha : a.natAbs.log2 < 13530) (hb : b.natAbs.log2 < 13530) : mulOk a b = true := by
  unfold mulOk
  have : decide (a.natAbs.log2 + b.natAbs.log2 < 1000000) = true := by simp; omega
  rw [this]; simp
theorem vec_mem {xs : List Int} {j : Nat} (h : j < xs.length) : vec xs j ∈ xs := by rw [vec_in h]; exact List.getElem_mem h
theorem fit_vec {xs : List Int} (h : Fit xs) (j : Nat) : (vec xs j).natAbs.log2 < 13530 := by
  by_cases hj : j < xs.length
  · exact h _ (vec_mem hj)
  · rw [vec_out (by omega)]; decide
theorem bd_fit {xs : List Int} {N : Nat} (h : Bd N (vec xs)) (hN : N < 2 ^ 13530) : Fit xs := fun x hx => by
  obtain ⟨j, hj, rfl⟩ := List.getElem_of_mem hx
  have := h j
  rw [vec_in hj] at this
  by_cases h0 : xs[j].natAbs = 0
  · rw [h0]; decide
  · exact (Nat.log2_lt h0).mpr (Nat.lt_of_le_of_lt this hN)
theorem at_vec (xs : List Int) (j : Nat) (h : j < xs.length) : L2.atI (eI xs) (j : Int) = some (.int (vec xs j)) := by
  rw [atI_nat, eI_get, List.getElem?_eq_getElem h, vec_in h]; rfl
theorem mem_vec {xs : List Int} {x : Int} (h : x ∈ xs) : ∃ j, x = vec xs j := by
  obtain ⟨j, hj, rfl⟩ := List.getElem_of_mem h
  exact ⟨j, (vec_in hj).symm⟩
theorem primitive_ok (k : Nat) (f : Fl) (xs : List Int) (hx : Fit xs) (hz : xs.length ≤ 1000) : run T (k + 2) i_primitive [.lst f (eI xs)] = some (eRow .own (prim xs), [none]) := by
  have e1 := common_divisor_ok k f.sh xs
  have e2 := pivot_ok k f.sh xs
  rw [r_primitive, runFn_eq rfl]
  by_cases hg : gcdL xs = 0
  · have : prim xs = xs := prim_z (gcdL_0.mp hg)
    rw [this]
    simp [f_primitive, b_primitive, e1, eqD_int, hg, shares_ints, eRow]
  · have hg' : ¬ ((gcdL xs : Int) = 0) := by omega
    have hp : piv xs < xs.length := by
      rcases Nat.lt_or_eq_of_le (piv_le xs) with q | q
      · exact q
      · exact absurd (gcdL_0.mpr (piv_zero.mp q)) hg
    have ep : pivI xs = (piv xs : Int) := by rw [pivI, if_pos hp]
    have ea := at_vec xs (piv xs) hp
    have hpos : (0 : Int) < gcdL xs := by omega
    by_cases hs : vec xs (piv xs) < 0
    · have hneg : ¬ ((gcdL xs : Int) < 0) := by omega
      have key := compL_mapT (bind := bindT (.name 2)) (cond := evC (G (k + 1)) .no) (elt := evE (G (k + 1)) p_primitive_c1) (vs := [2]) (ρ := [some (D.lst f.sh (eI xs)), some (.int (-(gcdL xs : Int))), none]) D.int (fun x => .int (-(x / (gcdL xs : Int)))) xs (acc := []) (fun x hxm => by
        refine ⟨[some (D.lst f.sh (eI xs)), some (.int (-(gcdL xs : Int))), some (.int x)], ?_, by simp⟩
        obtain ⟨j, rfl⟩ := mem_vec hxm
        obtain ⟨q, hq⟩ := gcdL_dvd xs j
        have h3 := hx _ hxm
        have e3 : (vec xs j).fdiv (-(gcdL xs : Int)) = -(vec xs j / (gcdL xs : Int)) := by
          rw [hq, Int.mul_ediv_cancel_left _ (by omega), Int.fdiv_eq_of_eq_mul_right (by omega)]
          rw [Int.neg_mul_neg]
        simp [p_primitive_c1, h3, hg, e3]) (by simp; omega)
      have e4 : prim xs = xs.map fun e => -(e / (gcdL xs : Int)) := by unfold prim; rw [if_neg hg, if_pos hs]
      rw [e4]
      simp [eI] at key
      simp [f_primitive, b_primitive, e1, e2, ep, ea, hs, eqD_int, hg, shares_ints, eRow]
      simp [eI, key]
    · have key := compL_mapT (bind := bindT (.name 2)) (cond := evC (G (k + 1)) .no) (elt := evE (G (k + 1)) p_primitive_c1) (vs := [2]) (ρ := [some (D.lst f.sh (eI xs)), some (.int (gcdL xs : Int)), none]) D.int (fun x => .int (x / (gcdL xs : Int))) xs (acc := []) (fun x hxm => by
        refine ⟨[some (D.lst f.sh (eI xs)), some (.int (gcdL xs : Int)), some (.int x)], ?_, by simp⟩
        have h3 := hx _ hxm
        have hg2 : 0 < gcdL xs := by omega
        simp [p_primitive_c1, h3, hg2]) (by simp; omega)
      have e4 : prim xs = xs.map fun e => e / (gcdL xs : Int) := by unfold prim; rw [if_neg hg, if_neg hs]
      rw [e4]
      simp [eI] at key
      simp [f_primitive, b_primitive, e1, e2, ep, ea, hs, eqD_int, hg, shares_ints, eRow]
      simp [eI, key]
end K03

namespace K03
open FL LA
/-! U2: a row cleared, what is left of it, a basis extended, rows reduced. -/
theorem fit_prim {xs : List Int} (h : Fit xs) : Fit (prim xs) := fun x hx => by
  obtain ⟨j, hj, rfl⟩ := List.getElem_of_mem hx
  rw [← vec_in hj]
  have h1 := prim_le xs j
  have h2 := fit_vec h j
  by_cases h0 : (vec (prim xs) j).natAbs = 0
  · rw [h0]; decide
  · by_cases h3 : (vec xs j).natAbs = 0
    · omega
    · exact (Nat.log2_lt h0).mpr (Nat.lt_of_le_of_lt h1 ((Nat.log2_lt h3).mp h2))
theorem cleared_ok (k : Nat) (row base : List Int) (at_ : Nat) (hr : Fit row) (hb : Fit base) (hw : Fit (clearW row base at_)) (hl : row.length = base.length) (ha : at_ < row.length) (hz : row.length ≤ 1000) :
    run T (k + 3) i_cleared [eRow .shr row, eRow .shr base, .int (at_ : Int)] = some (eRow .own (clearR row base at_), [none, none, none]) := by
  rw [r_cleared, runFn_eq rfl]
  have a1 := at_vec row at_ ha
  have a2 := at_vec base at_ (by omega)
  have key := compL_mapT (bind := bindT (.names [3, 4])) (cond := evC (G (k + 2)) .no) (elt := evE (G (k + 2)) p_cleared_c1) (vs := [3, 4]) (ρ := [some (eRow .shr row), some (eRow .shr base), some (.int at_), none, none]) (fun p : Int × Int => .tup [.int p.1, .int p.2]) (fun p => .int (p.1 * vec base at_ - p.2 * vec row at_)) (row.zip base) (acc := []) (fun p hp => by
    have m1 := fit_mul (hr _ (List.of_mem_zip hp).1) (fit_vec hb at_)
    have m2 := fit_mul (hb _ (List.of_mem_zip hp).2) (fit_vec hr at_)
    refine ⟨[some (eRow .shr row), some (eRow .shr base), some (.int at_), some (.int p.1), some (.int p.2)], ?_, by simp⟩
    simp [p_cleared_c1, putAll, eRow, shares_ints, a1, a2, m1, m2]) (by simp only [List.length_zip, List.length_nil, SZ_val]; omega)
  have ez : zipL (eI row) (eI base) = (row.zip base).map fun p => .tup [.int p.1, .int p.2] := zipL_map D.int D.int row base
  have ew : (row.zip base).map (fun p => D.int (p.1 * vec base at_ - p.2 * vec row at_)) = eI (clearW row base at_) := by
    unfold clearW eI
    rw [List.zip_eq_zipWith, List.map_zipWith, List.map_zipWith]
  have e1 := primitive_ok k .shr (clearW row base at_) hw (by rw [clearW_len hl]; exact hz)
  simp [f_cleared, b_cleared, eRow, shares_ints, ez]
  simp [eRow] at key
  rw [key, ew]
  simp [shares_ints, e1, clearR, eRow]
/-- the numbers on the way to what is left of a row -/
def RemFit (row : List Int) : List (List Int) → Prop
  | [] => Fit row
  | b :: bs => Fit row ∧ Fit b ∧ b.length = row.length ∧ piv b < b.length ∧ (vec row (piv b) ≠ 0 → Fit (clearW row b (piv b))) ∧ RemFit (if vec row (piv b) = 0 then row else clearR row b (piv b)) bs
theorem pivI_in {b : List Int} (h : piv b < b.length) : pivI b = (piv b : Int) := by rw [pivI, if_pos h]
theorem remainder_ok (k : Nat) (row : List Int) (bs : List (List Int)) (h : RemFit row bs) (hz : row.length ≤ 1000) :
    run T (k + 4) i_remainder [eRow .shr row, eRows .shr bs] = some (eRow .shr (remR row bs), [none, none]) := by
  rw [r_remainder, runFn_eq rfl]
  obtain ⟨⟨r, x2, x3⟩, e, hI⟩ := forL_st (bind := bindT (.name 2)) (body := exSs (G (k + 3)) p_remainder_l1) (eRow .shr) (fun s : List Int × Option D × Option D => [some (eRow .shr s.1), some (eRows .shr bs), s.2.1, s.2.2]) (fun l s => RemFit s.1 l ∧ remR s.1 l = remR row bs ∧ s.1.length ≤ 1000) (fun b l s hI => by
    obtain ⟨r, x2, x3⟩ := s
    obtain ⟨⟨h1, h2, h3, h4, h5, h6⟩, hr, hz⟩ := hI
    simp only at h1 h2 h3 h4 h5 h6 hr hz
    have hr := (show remR r (b :: l) = remR (if vec r (piv b) = 0 then r else clearR r b (piv b)) l from rfl).symm.trans hr
    have e1 := pivot_ok (k + 2) .shr b
    rw [pivI_in h4] at e1
    have a1 := at_vec r (piv b) (by omega)
    by_cases hv : vec r (piv b) = 0
    · rw [if_pos hv] at h6 hr
      refine ⟨(r, some (eRow .shr b), some (.int (piv b))), .inl ?_, h6, hr, hz⟩
      simp only [eRow] at *
      simp [p_remainder_l1, e1, shares_ints, a1, eqD_int, hv]
    · rw [if_neg hv] at h6 hr
      have e2 := cleared_ok k r b (piv b) h1 h2 (h5 hv) h3.symm (by omega) hz
      refine ⟨(clearR r b (piv b), none, none), .inl ?_, h6, hr, ?_⟩
      · simp only [eRow] at *
        simp [p_remainder_l1, e1, shares_ints, a1, eqD_int, hv, e2]
      · simp only; rw [clear_len h3.symm]; exact hz) bs (row, none, none) ⟨h, rfl, hz⟩
  obtain ⟨_, hr, _⟩ := hI
  simp only [remR] at hr
  subst hr
  simp [f_remainder, b_remainder, eRows, shares_rows]
  simp [eRows] at e
  rw [e]
  simp
theorem c_nomemE {α : Type} [DecidableEq α] {ea : α → D} {n : Nat} (h : EqE ea ea n (fun a b => decide (a = b))) (hn : n + 1 ≤ 64) (f : Fl) (x : α) (xs : List α) (hf : flatD (ea x) = false) : cmpD .nomem (ea x) (.lst f (xs.map ea)) = some (!decide (x ∈ xs)) := by
  have q := c_memE h hn f x xs hf
  simp only [cmpD] at q ⊢
  rw [if_neg (by simp [hf])] at q ⊢
  rw [q]
  rfl
theorem nomem_row (f : Fl) (x : List Int) (xs : List (List Int)) : cmpD .nomem (eRow .shr x) (.lst f (xs.map (eRow .shr))) = some (!decide (x ∈ xs)) := by
  rw [c_nomemE (eqE_ints .shr .shr) (by omega) f x xs rfl]
  congr
/-- the numbers of an extension -/
structure ExtFit (bs : List (List Int)) (row : List Int) : Prop where
  rem : RemFit row bs
  res : Fit (remR row bs)
  ins : ∀ b ∈ bs, Fit b ∧ b.length = row.length ∧ piv b < b.length ∧ (vec b (piv (prim (remR row bs))) ≠ 0 → Fit (clearW b (prim (remR row bs)) (piv (prim (remR row bs)))))
end K03

namespace K03
open FL LA
/-! U3: a basis extended, rows reduced. -/
theorem ins_len (rest : List Int) (at_ : Nat) : ∀ bs : List (List Int), (insR rest at_ bs).length = bs.length + 1
  | [] => rfl
  | b :: bs => by
    unfold insR
    split
    · simp
    · simp [ins_len rest at_ bs]
/-- is the row in the span of the basis? -/
def inB (bs : List (List Int)) (row : List Int) : Bool := decide (piv (remR row bs) = (remR row bs).length)
theorem inB_iff {w : Nat} {bs : List (List Int)} {row : List Int} (h : Can w bs) (hl : row.length = w) : inB bs row = true ↔ Sr bs (vec row) := by
  rw [inB, decide_eq_true_iff, piv_zero, rem_zero h hl]
theorem inB_prim (bs : List (List Int)) (row : List Int) : inB bs row = decide (piv (prim (remR row bs)) = (prim (remR row bs)).length) := by
  have : (piv (remR row bs) = (remR row bs).length) ↔ (piv (prim (remR row bs)) = (prim (remR row bs)).length) := by
    rw [piv_zero, piv_zero]
    exact ⟨fun h j => prim_at.mpr (h j), fun h j => prim_at.mp (h j)⟩
  unfold inB
  exact decide_eq_decide.mpr this
def RedFit (bs : List (List Int)) : List (List Int) → Prop
  | [] => True
  | r :: rows => ExtFit bs r ∧ RedFit (extR bs r) rows
theorem can_len {w : Nat} {bs : List (List Int)} (h : Can w bs) : bs.length ≤ w := by
  have h1 := asc_len (qs := List.range w) h.ech.asc (fun x hx => by
    obtain ⟨b, hb, rfl⟩ := List.mem_map.mp hx
    have := (h.nice b hb).lt
    rw [h.len b hb] at this
    simpa using this)
  simpa using h1
end K03

namespace K03
open FL LA
/-! U4: bounded rows stay in the numbers that may be divided. -/
theorem rem_fit {w N : Nat} (hN : N < 2 ^ 13530) : ∀ {bs : List (List Int)} {row : List Int}, RemOk N row bs → (∀ b ∈ bs, b.length = w ∧ Nice b ∧ Fit b) → row.length = w → Fit row → RemFit row bs
  | [], row, _, _, _, hf => hf
  | b :: bs, row, h, hb, hl, hf => by
    obtain ⟨h1, h2, h3⟩ := hb b (by simp)
    have hlb : row.length = b.length := by rw [hl, h1]
    refine ⟨hf, h3, hlb.symm, h2.lt, fun hv => bd_fit (h.1 hv) hN, rem_fit hN h.2 (fun c hc => hb c (by simp [hc])) ?_ ?_⟩
    · split
      · exact hl
      · rw [clear_len hlb, hl]
    · split
      · exact hf
      · rename_i hv
        exact fit_prim (bd_fit (h.1 hv) hN)
theorem ext_fit {w N : Nat} (hN : N < 2 ^ 13530) {bs : List (List Int)} {row : List Int} (hc : Can w bs) (hl : row.length = w) (h : ExtOk N bs row) (hb : ∀ b ∈ bs, Fit b) (hr : Fit row) : ExtFit bs row :=
  ⟨rem_fit hN h.rem (fun b hm => ⟨hc.len b hm, hc.nice b hm, hb b hm⟩) hl hr, bd_fit h.res hN, fun b hm => ⟨hb b hm, by rw [hc.len b hm, hl], (hc.nice b hm).lt, fun hv => bd_fit (h.ins b hm hv) hN⟩⟩
/-- a bound of a row's entries that serves for its space -/
structure Wide (w B : Nat) : Prop where
  pos : 1 ≤ B
  fit : NB w B < 2 ^ 13530
theorem Wide.M {w B : Nat} (h : Wide w B) : MB w B < 2 ^ 13530 := Nat.lt_of_le_of_lt (MB_le_NB h.pos) h.fit
theorem Wide.B {w B : Nat} (h : Wide w B) : B < 2 ^ 13530 := Nat.lt_of_le_of_lt (B_le_NB h.pos) h.fit
theorem pow_lt_big {e : Nat} (h : e < 13530) : 2 ^ e < 2 ^ 13530 := Nat.pow_lt_pow_right (by omega) h
theorem wide_of {w b B : Nat} (hw : w ≤ 9) (hB : 1 ≤ B) (hb : B ≤ 2 ^ b) (he : 43 + 2 * b * (w - 1) + b < 13530) : Wide w B :=
  ⟨hB, Nat.lt_of_le_of_lt (Nat.le_trans (NB_mono hb) (NB_pow hw)) (pow_lt_big he)⟩
/-- an extension of a basis of bounded rows by a bounded row -/
theorem ext_wide {w B : Nat} (hW : Wide w B) {bs : List (List Int)} {row : List Int} {R : Vec → Prop} (h : Can w bs) (hl : row.length = w) (hR : ∀ r, R r → Bd B r) (s : ∀ u, Sr bs u ↔ Sp R u) (hr : Bd B (vec row)) : ExtFit bs row := by
  obtain ⟨q1, q2⟩ := ext_NB h hl hW.pos hR s hr
  exact ext_fit hW.fit h hl q1 (fun b hb => bd_fit (q2 b hb) hW.M) (bd_fit hr hW.B)
theorem red_wide_aux {w B : Nat} (hW : Wide w B) : ∀ (rows bs pre : List (List Int)), Can w bs → (∀ u, Sr bs u ↔ Sr pre u) → (∀ r ∈ pre, r.length = w ∧ Bd B (vec r)) → (∀ r ∈ rows, r.length = w ∧ Bd B (vec r)) → RedFit bs rows
  | [], _, _, _, _, _, _ => trivial
  | r :: rows, bs, pre, hc, s, hp, hr => by
    obtain ⟨l1, b1⟩ := hr r (by simp)
    refine ⟨ext_wide hW hc l1 (R := (· ∈ pre.map vec)) (fun v hv => ?_) s b1, ?_⟩
    · obtain ⟨x, hx, rfl⟩ := List.mem_map.mp hv
      exact (hp x hx).2
    · refine red_wide_aux hW rows (extR bs r) (pre ++ [r]) (ext_ok hc l1).1 (fun u => ?_) (fun x hx => ?_) (fun x hx => hr x (by simp [hx]))
      · rw [ext_span hc l1]
        constructor
        · refine Sr_of fun x hx => ?_
          rcases List.mem_append.mp hx with hx | hx
          · exact ((s _).mp (Sr_mem hx)).mono fun v hv => by
              obtain ⟨y, hy, rfl⟩ := List.mem_map.mp hv
              exact List.mem_map_of_mem (by simp [hy])
          · exact Sr_mem (by simp at hx ⊢; exact .inr hx)
        · refine Sr_of fun x hx => ?_
          rcases List.mem_append.mp hx with hx | hx
          · exact ((s _).mpr (Sr_mem hx)).mono fun v hv => by
              obtain ⟨y, hy, rfl⟩ := List.mem_map.mp hv
              exact List.mem_map_of_mem (by simp [hy])
          · exact Sr_mem (by simp at hx ⊢; exact .inr hx)
      · rcases List.mem_append.mp hx with hx | hx
        · exact hp x hx
        · rw [List.mem_singleton.mp hx]; exact ⟨l1, b1⟩
theorem red_wide {w B : Nat} (hW : Wide w B) {rows : List (List Int)} (h : ∀ r ∈ rows, r.length = w ∧ Bd B (vec r)) : RedFit [] rows :=
  red_wide_aux hW rows [] [] (Can.nil w) (fun u => Iff.rfl) (by simp) h
/-- the basis of bounded rows is bounded -/
theorem red_bd {w B : Nat} (hB : 1 ≤ B) {rows : List (List Int)} (h : ∀ r ∈ rows, r.length = w ∧ Bd B (vec r)) : ∀ b ∈ redR rows, Bd (MB w B) (vec b) := by
  obtain ⟨D, q⟩ := can_MB (red_can fun r hr => (h r hr).1) (R := (· ∈ rows.map vec)) hB (fun v hv => by
    obtain ⟨x, hx, rfl⟩ := List.mem_map.mp hv
    exact (h x hx).2) (red_span fun r hr => (h r hr).1)
  exact q.bd
end K03

namespace K03
open FL LA
/-! U5: drawn vectors. -/
theorem entry_ok (k : Nat) (p : Pool) (big : Int) (hb : 0 ≤ big) : ∃ v p', run T (k + 2) i_l_entry [eP p, .int big] = some (.int v, [some (eP p'), none]) ∧ (v.natAbs : Int) ≤ 9 * big + 9 + (if 0 < big then 1000000000 else 0) := by
  rw [r_l_entry, runFn_eq rfl]
  obtain ⟨v1, p1, e1, g1, l1⟩ := draw_ok k p 19 (by omega) (by omega)
  obtain ⟨v2, p2, e2, g2, l2⟩ := draw_ok k p1 1000000000 (by omega) (by omega)
  have m : mulOk (v1 - 9) big = true := by
    have : (v1 - 9).natAbs < 2 ^ 64 := by omega
    simp [mulOk, this]
  by_cases h : 0 < big
  · refine ⟨(v1 - 9) * big + v2, p2, by simp [f_l_entry, b_l_entry, e1, e2, h, m], ?_⟩
    have h1 : (v1 - 9) * big ≤ 9 * big := Int.mul_le_mul_of_nonneg_right (by omega) hb
    have h2 : -9 * big ≤ (v1 - 9) * big := Int.mul_le_mul_of_nonneg_right (by omega) hb
    rw [if_pos h]
    omega
  · exact ⟨v1 - 9, p1, by simp [f_l_entry, b_l_entry, e1, h], by rw [if_neg h]; omega⟩
/-- rows, each own or shared -/
abbrev FR := Fl × List Int
def eFR (p : FR) : D := eRow p.1 p.2
theorem bd_list {B : Nat} {xs : List Int} (h : ∀ x ∈ xs, x.natAbs ≤ B) : Bd B (vec xs) := fun j => by
  by_cases hj : j < xs.length
  · exact h _ (vec_mem hj)
  · rw [vec_out (by omega)]; exact Nat.zero_le _
theorem bd_mem {B : Nat} {xs : List Int} (h : Bd B (vec xs)) {x : Int} (hx : x ∈ xs) : x.natAbs ≤ B := by
  obtain ⟨j, rfl⟩ := mem_vec hx
  exact h j
structure RowsB (w B : Nat) (rs : List FR) : Prop where
  fl : ∀ p ∈ rs, p.1.sh = .shr
  len : ∀ p ∈ rs, p.2.length = w
  bd : ∀ p ∈ rs, Bd B (vec p.2)
theorem ixN_int (n : Nat) (i : Int) (h0 : 0 ≤ i) (h1 : i < n) : L2.ixN n i = some i.toNat := by
  have := ixN_ok n i.toNat (by omega)
  rwa [Int.toNat_of_nonneg h0] at this
theorem RowsB.snoc {w B B' : Nat} {rs : List FR} (h : RowsB w B rs) (hB : B ≤ B') {xs : List Int} (hl : xs.length = w) (hx : Bd B' (vec xs)) : RowsB w B' (rs ++ [(.own, xs)]) := by
  refine ⟨fun p hp => ?_, fun p hp => ?_, fun p hp => ?_⟩ <;> rcases List.mem_append.mp hp with hp | hp
  · exact h.fl p hp
  · rw [List.mem_singleton.mp hp]; rfl
  · exact h.len p hp
  · rw [List.mem_singleton.mp hp]; exact hl
  · exact (h.bd p hp).mono hB
  · rw [List.mem_singleton.mp hp]; exact hx
theorem RowsB.share {w B : Nat} {rs : List FR} (h : RowsB w B rs) {i : Nat} {p : FR} (hi : rs[i]? = some p) : RowsB w B (rs.set i (.shr, p.2)) := by
  have hp := List.mem_of_getElem? hi
  refine ⟨fun q hq => ?_, fun q hq => ?_, fun q hq => ?_⟩ <;> rcases List.mem_or_eq_of_mem_set hq with hq | hq
  · exact h.fl q hq
  · rw [hq]; rfl
  · exact h.len q hq
  · rw [hq]; exact h.len p hp
  · exact h.bd q hq
  · rw [hq]; exact h.bd p hp
theorem bd_comb {B w : Nat} {a b : List Int} (l r : Int) (hl : l.natAbs ≤ 2) (hr : r.natAbs ≤ 2) (ha : Bd B (vec a)) (hb : Bd B (vec b)) : Bd (B * 4) (vec ((List.range w).map fun j => l * vec a j + r * vec b j)) := bd_list fun x hx => by
  obtain ⟨j, _, rfl⟩ := List.mem_map.mp hx
  have h1 := Nat.mul_le_mul hl (ha j)
  have h2 := Nat.mul_le_mul hr (hb j)
  rw [← Int.natAbs_mul] at h1 h2
  have := Int.natAbs_add_le (l * vec a j) (r * vec b j)
  omega
theorem vectors_step (k : Nat) (ns : List Int) (place j many w : Nat) (big : Int) (N : Nat) (hb : 0 ≤ big) (hE : 9 * big + 9 + (if 0 < big then 1000000000 else 0) ≤ N) (hw : w ≤ 9) (rs : List FR) (hj : rs.length = j) (hj2 : j ≤ 100) (hR : RowsB w (N * 4 ^ j) rs) (x6 x7 x8 x9 x10 x11 x12 x13 : Option D) :
    ∃ rs' : List FR, rs'.length = j + 1 ∧ RowsB w (N * 4 ^ (j + 1)) rs' ∧ ∃ y6 y7 y8 y9 y10 y11 y12 y13 : Option D,
    (bindT (.name 6) (.int (j : Int)) [some (.lst .frz (eI ns)), some (.int (place : Int)), some (.int (many : Int)), some (.int (w : Int)), some (.int big), some (.lst .own (rs.map eFR)), x6, x7, x8, x9, x10, x11, x12, x13]).bind (exSs (G (k + 2)) p_l_vectors_l1) =
      some (.nx [some (.lst .frz (eI ns)), some (.int (place : Int)), some (.int (many : Int)), some (.int (w : Int)), some (.int big), some (.lst .own (rs'.map eFR)), y6, y7, y8, y9, y10, y11, y12, y13]) := by
  have hEB : N * 4 ^ j ≤ N * 4 ^ (j + 1) := Nat.mul_le_mul_left _ (Nat.pow_le_pow_right (by omega) (by omega))
  have hE1 : N ≤ N * 4 ^ (j + 1) := Nat.le_mul_of_pos_right _ (Nat.pow_pos (by omega))
  obtain ⟨p0, e0⟩ := pool_ok (k + 1) .frz ns (place + j)
  rw [Int.natCast_add] at e0
  obtain ⟨v1, p1, e1, g1, l1⟩ := draw_ok (k + 1) p0 4 (by omega) (by omega)
  have gW := rngO_nat (w : Int) w rfl (by omega)
  have z1 : rs.length < 16777216 := by omega
  have fz : Fl.frz.sh = Fl.frz := rfl
  by_cases h1 : v1 = 0 ∧ 0 < j
  · obtain ⟨rfl, hj0⟩ := h1
    have hjI : (0 : Int) < (j : Int) := by omega
    obtain ⟨a, p2, e2, ga, la⟩ := draw_ok (k + 1) p1 j (by omega) (by omega)
    obtain ⟨b, p3, e3, gb, lb⟩ := draw_ok (k + 1) p2 j (by omega) (by omega)
    obtain ⟨l, p4, e4, gl, ll⟩ := draw_ok (k + 1) p3 5 (by omega) (by omega)
    obtain ⟨r, p5, e5, gr, lr⟩ := draw_ok (k + 1) p4 5 (by omega) (by omega)
    have ia := ixN_int j a ga (by omega)
    have ib := ixN_int j b gb (by omega)
    obtain ⟨A, hA⟩ : ∃ A, rs[a.toNat]? = some A := ⟨_, List.getElem?_eq_getElem (by omega)⟩
    have hR1 := hR.share hA
    have mA := hR.fl _ (List.mem_of_getElem? hA)
    have bA := hR.bd _ (List.mem_of_getElem? hA)
    have lA := hR.len _ (List.mem_of_getElem? hA)
    obtain ⟨B, hB⟩ : ∃ B, (rs.set a.toNat (.shr, A.2))[b.toNat]? = some B := ⟨_, List.getElem?_eq_getElem (by rw [List.length_set]; omega)⟩
    have hR2 := hR1.share hB
    have mB := hR1.fl _ (List.mem_of_getElem? hB)
    have bB := hR1.bd _ (List.mem_of_getElem? hB)
    have lB := hR1.len _ (List.mem_of_getElem? hB)
    have sA : share (eFR A) = eRow .shr A.2 := by rw [eFR, share_row, mA]
    have sB : share (eFR B) = eRow .shr B.2 := by rw [eFR, share_row, mB]
    have t1 : (rs.map eFR).set a.toNat (eRow .shr A.2) = (rs.set a.toNat (.shr, A.2)).map eFR := by rw [List.map_set]; rfl
    have t2 : ((rs.set a.toNat (.shr, A.2)).map eFR).set b.toNat (eRow .shr B.2) = ((rs.set a.toNat (.shr, A.2)).set b.toNat (.shr, B.2)).map eFR := (List.map_set (f := eFR) (l := rs.set a.toNat (.shr, A.2)) (i := b.toNat) (a := (.shr, B.2))).symm
    have uA : (rs.map eFR)[a.toNat]? = some (eFR A) := by rw [List.getElem?_map, hA]; rfl
    have uB : ((rs.set a.toNat (.shr, A.2)).map eFR)[b.toNat]? = some (eFR B) := by rw [List.getElem?_map, hB]; rfl
    generalize hrs2 : (rs.set a.toNat (.shr, A.2)).set b.toNat (.shr, B.2) = rs2 at *
    have lrs2 : rs2.length = j := by rw [← hrs2]; simp [hj]
    have key := compL_mapT (bind := bindT (.name 13)) (cond := evC (G (k + 2)) .no) (elt := evE (G (k + 2)) p_l_vectors_c2) (vs := [13]) (ρ := [some (.lst .frz (eI ns)), some (.int (place : Int)), some (.int (many : Int)), some (.int (w : Int)), some (.int big), some (.lst .own (rs2.map eFR)), none, some (eP p5), some (.int 0), some (eRow .shr A.2), some (eRow .shr B.2), some (.int (l - 2)), some (.int (r - 2)), none]) (fun (i : Nat) => D.int (i : Int)) (fun (i : Nat) => D.int ((l - 2) * vec A.2 i + (r - 2) * vec B.2 i)) (List.range w) (acc := []) (fun i hi => by
      have hi' : i < w := by simpa using hi
      have a1 := at_vec A.2 i (by omega)
      have a2 := at_vec B.2 i (by omega)
      have m1 : mulOk (l - 2) (vec A.2 i) = true := by
        have : (l - 2).natAbs < 2 ^ 64 := by omega
        simp [mulOk, this]
      have m2 : mulOk (r - 2) (vec B.2 i) = true := by
        have : (r - 2).natAbs < 2 ^ 64 := by omega
        simp [mulOk, this]
      refine ⟨[some (.lst .frz (eI ns)), some (.int (place : Int)), some (.int (many : Int)), some (.int (w : Int)), some (.int big), some (.lst .own (rs2.map eFR)), none, some (eP p5), some (.int 0), some (eRow .shr A.2), some (eRow .shr B.2), some (.int (l - 2)), some (.int (r - 2)), some (.int i)], ?_, by simp⟩
      simp [p_l_vectors_c2, eRow, shares_ints, a1, a2, m1, m2]) (by simp; omega)
    rw [← rngL_0] at key
    have er : (List.range w).map (fun (i : Nat) => D.int ((l - 2) * vec A.2 i + (r - 2) * vec B.2 i)) = eI ((List.range w).map fun i => (l - 2) * vec A.2 i + (r - 2) * vec B.2 i) := by simp [eI]
    rw [er, List.nil_append] at key
    have z2 : rs2.length < 16777216 := by omega
    have z3 : j < 16777216 := by omega
    refine ⟨rs2 ++ [(.own, (List.range w).map fun i => (l - 2) * vec A.2 i + (r - 2) * vec B.2 i)], by simp [lrs2], hR2.snoc hEB (by simp) ?_, none, some (eP p5), some (.int 0), some (eRow .shr A.2), some (eRow .shr B.2), some (.int (l - 2)), some (.int (r - 2)), none, ?_⟩
    · have := bd_comb (w := w) (l - 2) (r - 2) (by omega) (by omega) bA bB
      rw [Nat.mul_assoc, ← Nat.pow_succ] at this
      exact this
    · simp only [eRow] at *
      simp [p_l_vectors_l1, fz, shares_ints, e0, e1, hj, hj0, hjI, eqD_int, e2, ia, hA, sA, t1, e3, ib, hB, sB, t2, e4, e5, gW, key, lrs2, z2, z3, -List.map_set]
      rfl
  · have inner : ∀ el : FL.E, (∀ (q : Pool) (i : Nat), ∃ z q', evE (G (k + 2)) el [some (.lst .frz (eI ns)), some (.int (place : Int)), some (.int (many : Int)), some (.int (w : Int)), some (.int big), some (.lst .own (rs.map eFR)), none, some (eP q), some (.int v1), x9, x10, x11, x12, some (.int (i : Int))] = some (.int z, [some (.lst .frz (eI ns)), some (.int (place : Int)), some (.int (many : Int)), some (.int (w : Int)), some (.int big), some (.lst .own (rs.map eFR)), none, some (eP q'), some (.int v1), x9, x10, x11, x12, some (.int (i : Int))]) ∧ z.natAbs ≤ N) →
        ∃ (zs : List Int) (q' : Pool), compL (bindT (.name 13)) (evC (G (k + 2)) .no) (evE (G (k + 2)) el) [13] (rngL 0 w) [some (.lst .frz (eI ns)), some (.int (place : Int)), some (.int (many : Int)), some (.int (w : Int)), some (.int big), some (.lst .own (rs.map eFR)), none, some (eP p1), some (.int v1), x9, x10, x11, x12, none] [] = some (eI zs, [some (.lst .frz (eI ns)), some (.int (place : Int)), some (.int (many : Int)), some (.int (w : Int)), some (.int big), some (.lst .own (rs.map eFR)), none, some (eP q'), some (.int v1), x9, x10, x11, x12, none]) ∧ zs.length = w ∧ ∀ z ∈ zs, z.natAbs ≤ N := by
      intro el hel
      obtain ⟨zs, ρ', e, hp, q', rfl⟩ := compL_ex (bind := bindT (.name 13)) (cond := evC (G (k + 2)) .no) (elt := evE (G (k + 2)) el) (vs := [13]) (fun ρ => ∃ q : Pool, ρ = [some (.lst .frz (eI ns)), some (.int (place : Int)), some (.int (many : Int)), some (.int (w : Int)), some (.int big), some (.lst .own (rs.map eFR)), none, some (eP q), some (.int v1), x9, x10, x11, x12, none]) (fun (_ : Nat) (z : Int) => z.natAbs ≤ N) (fun (i : Nat) => D.int (i : Int)) D.int (List.range w) (acc := []) (fun i hi ρ hρ => by
        obtain ⟨q, rfl⟩ := hρ
        obtain ⟨z, q', e, hz⟩ := hel q i
        refine ⟨z, [some (.lst .frz (eI ns)), some (.int (place : Int)), some (.int (many : Int)), some (.int (w : Int)), some (.int big), some (.lst .own (rs.map eFR)), none, some (eP q'), some (.int v1), x9, x10, x11, x12, some (.int (i : Int))], ?_, hz, q', by simp⟩
        simp [e]) ⟨p1, rfl⟩ (by simp; omega)
      rw [← rngL_0, List.nil_append] at e
      exact ⟨zs, q', e, by simpa using hp.1, hp.all fun _ _ h => h⟩
    have z3 : j < 16777216 := by omega
    have i3 := inner p_l_vectors_c3 fun q i => by
      obtain ⟨v, q', e, g, l⟩ := draw_ok (k + 1) q 3 (by omega) (by omega)
      have hN : (9 : Int) ≤ N := by
        by_cases hp : 0 < big
        · rw [if_pos hp] at hE; omega
        · rw [if_neg hp] at hE; omega
      exact ⟨v - 1, q', by simp [p_l_vectors_c3, e], by omega⟩
    have i4 := inner p_l_vectors_c4 fun q i => by
      obtain ⟨v, q', e, l⟩ := entry_ok k q big hb
      exact ⟨v, q', by simp [p_l_vectors_c4, e], by omega⟩
    have fin : ∀ zs : List Int, zs.length = w → (∀ z ∈ zs, z.natAbs ≤ N) → RowsB w (N * 4 ^ (j + 1)) (rs ++ [(.own, zs)]) := fun zs h1 h2 => hR.snoc hEB h1 ((bd_list h2).mono hE1)
    by_cases h3 : v1 = 1
    · subst h3
      obtain ⟨zs, q', e, hl, hz⟩ := i3
      refine ⟨rs ++ [(.own, zs)], by simp [hj], fin zs hl hz, none, some (eP q'), some (.int 1), x9, x10, x11, x12, none, ?_⟩
      simp [p_l_vectors_l1, fz, shares_ints, e0, e1, hj, eqD_int, gW, e, z3]
      rfl
    · obtain ⟨zs, q', e, hl, hz⟩ := i4
      refine ⟨rs ++ [(.own, zs)], by simp [hj], fin zs hl hz, none, some (eP q'), some (.int v1), x9, x10, x11, x12, none, ?_⟩
      by_cases h0 : v1 = 0
      · subst h0
        have hj0 : ¬ (0 < j) := fun q => h1 ⟨rfl, q⟩
        simp [p_l_vectors_l1, fz, shares_ints, e0, e1, hj, hj0, eqD_int, gW, e, z3]
        rfl
      · simp [p_l_vectors_l1, fz, shares_ints, e0, e1, hj, h0, h3, eqD_int, gW, e, z3]
        rfl
theorem vectors_ok (k : Nat) (ns : List Int) (place many w : Nat) (big : Int) (N : Nat) (hb : 0 ≤ big) (hE : 9 * big + 9 + (if 0 < big then 1000000000 else 0) ≤ N) (hw : w ≤ 9) (hm : many ≤ 60) :
    ∃ rs : List FR, rs.length = many ∧ RowsB w (N * 4 ^ many) rs ∧ run T (k + 3) i_l_vectors [.lst .frz (eI ns), .int (place : Int), .int (many : Int), .int (w : Int), .int big] = some (.lst .own (rs.map eFR), [none, none, none, none, none]) := by
  obtain ⟨⟨rs, x6, x7, x8, x9, x10, x11, x12, x13⟩, e, h1, h2⟩ := forL_rng (bind := bindT (.name 6)) (body := exSs (G (k + 2)) p_l_vectors_l1)
    (fun s : List FR × Option D × Option D × Option D × Option D × Option D × Option D × Option D × Option D => [some (.lst .frz (eI ns)), some (.int (place : Int)), some (.int (many : Int)), some (.int (w : Int)), some (.int big), some (.lst .own (s.1.map eFR)), s.2.1, s.2.2.1, s.2.2.2.1, s.2.2.2.2.1, s.2.2.2.2.2.1, s.2.2.2.2.2.2.1, s.2.2.2.2.2.2.2.1, s.2.2.2.2.2.2.2.2]) many
    (fun j s => s.1.length = j ∧ RowsB w (N * 4 ^ j) s.1) (by
      rintro j ⟨rs, x6, x7, x8, x9, x10, x11, x12, x13⟩ hj ⟨h1, h2⟩
      obtain ⟨rs', l', R', y6, y7, y8, y9, y10, y11, y12, y13, e⟩ := vectors_step k ns place j many w big N hb hE hw rs h1 (by omega) h2 x6 x7 x8 x9 x10 x11 x12 x13
      exact ⟨(rs', y6, y7, y8, y9, y10, y11, y12, y13), .inl e, l', R'⟩) ([], none, none, none, none, none, none, none, none) ⟨rfl, by simp, by simp, by simp⟩
  have gM := rngO_nat (many : Int) many rfl (by omega)
  have fz : Fl.frz.sh = Fl.frz := rfl
  refine ⟨rs, h1, h2, ?_⟩
  rw [r_l_vectors, runFn_eq rfl]
  simp at e
  simp [f_l_vectors, b_l_vectors, fz, shares_ints, gM, e]
end K03

namespace K03
open FL LA
/-! U6: the rank of rows. -/
theorem gl_step (k : Nat) (x0 : Option D) (d r : Nat) : ∃ d' : Nat, whlD (evC (G k) (.yes (.cmp .ne (.var 3) (.cst (.int 0))))) (exSs (G k) p_l_divisor_w2) [x0, some (.int d), none, some (.int r), none] = some (.nx [x0, some (.int d'), none, some (.int 0), none]) ∧ d' = Nat.gcd d r := by
  obtain ⟨⟨d', r'⟩, e, hI, hc⟩ := whlD_ok (fun s : Nat × Nat => [x0, some (.int s.1), none, some (.int s.2), none]) (fun s => s.2) (fun s => Nat.gcd s.1 s.2 = Nat.gcd d r) (fun s => !((s.2 : Int) == 0)) (cond := evC (G k) (.yes (.cmp .ne (.var 3) (.cst (.int 0))))) (body := exSs (G k) p_l_divisor_w2) (fun s _ => by
      simp [eqD_int]) (fun s hI hc => by
      obtain ⟨a, b⟩ := s
      simp at hc hI ⊢
      have hb : 0 < b := by omega
      refine ⟨b, a % b, ?_, ?_, Nat.mod_lt _ hb⟩
      · simp [p_l_divisor_w2, hb]
      · rw [← hI, Nat.gcd_comm a b, Nat.gcd_comm b (a % b), ← Nat.gcd_rec]) (d, r) rfl
  simp at hc hI
  subst hc
  refine ⟨d', e, ?_⟩
  simpa using hI
theorem l_divisor_ok (k : Nat) (f : Fl) (xs : List Int) : run T (k + 1) i_l_divisor [.lst f (eI xs)] = some (.int (gcdL xs), [none]) := by
  rw [r_l_divisor, runFn_eq rfl]
  obtain ⟨⟨d, x2, x3⟩, e, hI⟩ := forL_st (bind := bindT (.name 2)) (body := exSs (G k) p_l_divisor_l1) D.int (fun s : Nat × Option D × Option D => [some (.lst f.sh (eI xs)), some (.int s.1), s.2.1, s.2.2, none]) (fun l s => Nat.gcd s.1 (gcdL l) = gcdL xs) (fun a l s hI => by
    obtain ⟨d, e1, e2⟩ := s
    simp only at hI
    obtain ⟨d', e, hd⟩ := gl_step k (some (.lst f.sh (eI xs))) d a.natAbs
    have hI' : Nat.gcd d' (gcdL l) = gcdL xs := by rw [hd, Nat.gcd_assoc]; exact hI
    exact ⟨(d', none, some (.int 0)), .inl (by simp [p_l_divisor_l1, absD_int, e]), hI'⟩) xs (0, none, none) (by simp)
  simp [gcdL] at hI
  subst hI
  simp [f_l_divisor, b_l_divisor, shares_ints]
  simp [eI] at e ⊢
  rw [e]
  simp
/-- no row is the script's -/
def Loose (rs : List FR) : Prop := ∀ p ∈ rs, p.1.sh = .shr
theorem Loose.shares {rs : List FR} (h : Loose rs) : shares (rs.map eFR) = (rs.map (·.2)).map (eRow .shr) := by
  rw [shares_eq, List.map_map, List.map_map]
  apply List.map_congr_left
  intro p hp
  show share (eRow p.1 p.2) = _
  rw [share_row, h p hp]; rfl
theorem Loose.set {rs : List FR} (h : Loose rs) {i : Nat} {p : FR} (hp : p.1.sh = .shr) : Loose (rs.set i p) := fun q hq => by
  rcases List.mem_or_eq_of_mem_set hq with hq | hq
  · exact h q hq
  · rw [hq]; exact hp
def rowsOf (rs : List FR) : List (List Int) := rs.map (·.2)
theorem rowsOf_set (rs : List FR) (i : Nat) (p : FR) : rowsOf (rs.set i p) = (rowsOf rs).set i p.2 := by simp [rowsOf, List.map_set]
theorem eFR_set (rs : List FR) (i : Nat) (f : Fl) (x : List Int) : (rs.map eFR).set i (.lst f (eI x)) = (rs.set i (f, x)).map eFR := by rw [List.map_set]; rfl
theorem atI_rows (xs : List (List Int)) (i : Nat) (x : List Int) (h : xs[i]? = some x) : L2.atI (xs.map (eRow .shr)) (i : Int) = some (eRow .shr x) := by rw [atI_nat, List.getElem?_map, h]; rfl
def hit (n : Nat) : Option Nat → Int
  | some i => ((n + i : Nat) : Int)
  | none => -1
theorem find_step (k : Nat) (rs : List FR) (hL : Loose rs) (c j : Nat) (at_ : Int) (x : List Int) (hx : (rowsOf rs)[j]? = some x) (hc : c < x.length) (x1 x2 x3 x6 x7 x8 x9 x10 x11 x12 : Option D) (h1 : ∀ d, x1 = some d → True) :
    (bindT (.name 6) (.int (j : Int)) [some (.lst .own (rs.map eFR)), x1, x2, x3, some (.int (c : Int)), some (.int at_), x6, x7, x8, x9, x10, x11, x12]).bind (exSs (G k) p_l_rank_l6) =
      some (.nx [some (.lst .own (rs.map eFR)), x1, x2, x3, some (.int (c : Int)), some (.int (if at_ < 0 ∧ vec x c ≠ 0 then (j : Int) else at_)), if at_ < 0 ∧ vec x c ≠ 0 then none else some (.int (j : Int)), x7, x8, x9, x10, x11, x12]) := by
  have a1 := atI_rows (rowsOf rs) j x hx
  have a2 := at_vec x c hc
  have sh := hL.shares
  rw [show rs.map (·.2) = rowsOf rs from rfl] at sh
  have sh2 : shares ((rowsOf rs).map (eRow .shr)) = (rowsOf rs).map (eRow .shr) := shares_rows .shr _
  by_cases q1 : at_ < 0
  · by_cases q2 : vec x c = 0
    · simp [p_l_rank_l6, q1, q2, sh, sh2, a1, eRow, shares_ints, a2, eqD_int]
    · simp [p_l_rank_l6, q1, q2, sh, sh2, a1, eRow, shares_ints, a2, eqD_int]
  · simp [p_l_rank_l6, q1]
theorem find_loop (k : Nat) (rs : List FR) (hL : Loose rs) (c w : Nat) (hc : c < w) (hw : ∀ x ∈ rowsOf rs, x.length = w) (x1 x2 x3 x7 x8 x9 x10 x11 x12 : Option D) : ∀ (m n : Nat) (at_ : Int) (x6 : Option D), n + m = rs.length →
    ∃ y6, forL (bindT (.name 6)) (exSs (G k) p_l_rank_l6) (rngL n m) [some (.lst .own (rs.map eFR)), x1, x2, x3, some (.int (c : Int)), some (.int at_), x6, x7, x8, x9, x10, x11, x12] =
      some (.nx [some (.lst .own (rs.map eFR)), x1, x2, x3, some (.int (c : Int)), some (.int (if at_ < 0 then (match findP c ((rowsOf rs).drop n) with | some i => ((n + i : Nat) : Int) | none => at_) else at_)), y6, x7, x8, x9, x10, x11, x12])
  | 0, n, at_, x6, h => by
    refine ⟨x6, ?_⟩
    have : (rowsOf rs).drop n = [] := List.drop_eq_nil_of_le (by simp [rowsOf]; omega)
    rw [this]
    simp only [findP, ite_self]
    rfl
  | m + 1, n, at_, x6, h => by
    have hn : n < (rowsOf rs).length := by simp [rowsOf]; omega
    obtain ⟨x, hx⟩ : ∃ x, (rowsOf rs)[n]? = some x := ⟨_, List.getElem?_eq_getElem hn⟩
    have hxl := hw x (List.mem_of_getElem? hx)
    have st := find_step k rs hL c n at_ x hx (by omega) x1 x2 x3 x6 x7 x8 x9 x10 x11 x12 (fun _ _ => trivial)
    have er : rngL (n : Int) (m + 1) = .int (n : Int) :: rngL ((n + 1 : Nat) : Int) m := by
      simp only [rngL, List.range_succ_eq_map, List.map_cons, List.map_map]
      congr 1
      apply List.map_congr_left
      intro a _
      simp only [Function.comp, D.int.injEq]
      omega
    obtain ⟨ρ1, e1, e2⟩ := bnd st
    obtain ⟨y6, ih⟩ := find_loop k rs hL c w hc hw x1 x2 x3 x7 x8 x9 x10 x11 x12 m (n + 1) (if at_ < 0 ∧ vec x c ≠ 0 then (n : Int) else at_) (if at_ < 0 ∧ vec x c ≠ 0 then none else some (.int (n : Int))) (by omega)
    refine ⟨y6, ?_⟩
    rw [er]
    unfold forL
    rw [e1]
    simp only [Option.bind_some, e2]
    rw [ih]
    have ed : (rowsOf rs).drop n = x :: (rowsOf rs).drop (n + 1) := by
      rw [List.drop_eq_getElem_cons hn, (List.getElem?_eq_some_iff.mp hx).2]
    rw [ed]
    congr 4
    simp only [findP]
    by_cases q1 : at_ < 0
    · by_cases q2 : vec x c = 0
      · simp only [q1, q2, true_and, ne_eq, not_true_eq_false, if_false, if_true]
        cases findP c ((rowsOf rs).drop (n + 1)) with
        | none => rfl
        | some i => simp; omega
      · simp only [q1, q2, true_and, ne_eq, not_false_eq_true, if_true]
        rw [if_neg (by omega)]
        simp
    · simp [q1]
theorem fdiv_ex {a b : Int} (hb : b ≠ 0) (h : b ∣ a) (hf : b.natAbs.log2 < 9000 ∨ a.natAbs.log2 < 13530) : binD .fdiv (.int a) (.int b) = some (.int (a / b)) := by
  rw [b_fdiv]
  by_cases hp : 0 < b
  · rw [if_pos ⟨hp, hf⟩]
  · rw [if_neg (fun q => hp q.1), if_pos ⟨by omega, hf⟩, Int.fdiv_eq_ediv_of_dvd h]
/-- the numbers of an elimination -/
structure RankFit (S L : Nat) : Prop where
  s : S < 2 ^ 30000
  d : L < 2 ^ 9000 ∨ 2 * (S * S) < 2 ^ 13530
theorem log_lt {a : Int} {B e : Nat} (h : a.natAbs ≤ B) (hB : B < 2 ^ e) (he : 0 < e) : a.natAbs.log2 < e := by
  by_cases h0 : a.natAbs = 0
  · rw [h0]; simpa using he
  · exact (Nat.log2_lt h0).mpr (Nat.lt_of_le_of_lt h hB)
theorem mul_S {a b : Int} {S : Nat} (hS : S < 2 ^ 30000) (ha : a.natAbs ≤ S) (hb : b.natAbs ≤ S) : mulOk a b = true := by
  have h1 := log_lt ha hS (by omega)
  have h2 := log_lt hb hS (by omega)
  unfold mulOk
  have : decide (a.natAbs.log2 + b.natAbs.log2 < 1000000) = true := by simp; omega
  rw [this]; simp
theorem rank_step (k : Nat) (rs : List FR) (hL : Loose rs) (w c j : Nat) (last : Int) (head x : List Int) (hx : (rowsOf rs)[j]? = some x) (hc : c < w) (hw : w ≤ 9) (hxl : x.length = w) (hhl : head.length = w) {S L : Nat} (hF : RankFit S L) (hlast : last ≠ 0) (hll : last.natAbs ≤ L)
    (hxS : Bd S (vec x)) (hhS : Bd S (vec head)) (hdv : ∀ i, last ∣ vec head c * vec x i - vec x c * vec head i) (x1 x5 x6 x7 x9 x10 x11 x12 : Option D) (hz : x11 = none ∧ x12 = none) :
    ∃ y9 y10, (bindT (.name 6) (.int (j : Int)) [some (.lst .own (rs.map eFR)), x1, some (.int last), some (.int (w : Int)), some (.int (c : Int)), x5, x6, x7, some (eRow .shr head), x9, x10, x11, x12]).bind (exSs (G k) p_l_rank_l2) =
      some (.nx [some (.lst .own ((rs.set j (.own, barStep c head last x)).map eFR)), x1, some (.int last), some (.int (w : Int)), some (.int (c : Int)), x5, none, x7, some (eRow .shr head), y9, y10, none, none]) := by
  obtain ⟨rfl, rfl⟩ := hz
  have a1 := atI_rows (rowsOf rs) j x hx
  have a2 := at_vec x c (by omega)
  have sh := hL.shares
  rw [show rs.map (·.2) = rowsOf rs from rfl] at sh
  have sh2 : shares ((rowsOf rs).map (eRow .shr)) = (rowsOf rs).map (eRow .shr) := shares_rows .shr _
  have hh := at_vec head c (by omega)
  have gW := rngO_nat (w : Int) w rfl (by omega)
  have hj : j < rs.length := by
    have := (List.getElem?_eq_some_iff.mp hx).1
    simpa [rowsOf] using this
  have ij : L2.ixN rs.length (j : Int) = some j := ixN_ok _ _ hj
  have k1 := compL_mapT (bind := bindT (.name 11)) (cond := evC (G k) .no) (elt := evE (G k) p_l_rank_c5) (vs := [11]) (ρ := [some (.lst .shr ((rowsOf rs).map (eRow .shr))), x1.map share, some (.int last), some (.int (w : Int)), some (.int (c : Int)), x5.map share, some (.int (j : Int)), x7.map share, some (eRow .shr head), some (.int (vec x c)), x10.map share, none, none]) D.int (fun e => .int (vec head c * e)) x (acc := []) (fun e he => by
    have m := mul_S hF.s (hhS c) (bd_mem hxS he)
    refine ⟨[some (.lst .shr ((rowsOf rs).map (eRow .shr))), x1.map share, some (.int last), some (.int (w : Int)), some (.int (c : Int)), x5.map share, some (.int (j : Int)), x7.map share, some (eRow .shr head), some (.int (vec x c)), x10.map share, some (.int e), none], ?_, by simp⟩
    simp [p_l_rank_c5, eRow, shares_ints, hh, m]) (by simp; omega)
  have k1' : x.map (fun e => D.int (vec head c * e)) = eI (x.map fun e => vec head c * e) := by simp [eI]
  rw [k1', List.nil_append] at k1
  change compL _ _ _ _ (eI x) _ _ = _ at k1
  have k2 := compL_mapT (bind := bindT (.name 12)) (cond := evC (G k) .no) (elt := evE (G k) p_l_rank_c4) (vs := [12]) (ρ := [some (.lst .own (rs.map eFR)), x1, some (.int last), some (.int (w : Int)), some (.int (c : Int)), x5, some (.int (j : Int)), x7, some (eRow .shr head), some (.int (vec x c)), some (eRow .shr (x.map fun e => vec head c * e)), none, none]) (fun (i : Nat) => D.int (i : Int)) (fun (i : Nat) => D.int (vec head c * vec x i - vec x c * vec head i)) (List.range w) (acc := []) (fun i hi => by
    have hi' : i < w := by simpa using hi
    have m := mul_S hF.s (hxS c) (hhS i)
    have b1 := at_vec (x.map fun e => vec head c * e) i (by simp; omega)
    rw [vec_map _ (by simp)] at b1
    have b2 := at_vec head i (by omega)
    refine ⟨[some (.lst .own (rs.map eFR)), x1, some (.int last), some (.int (w : Int)), some (.int (c : Int)), x5, some (.int (j : Int)), x7, some (eRow .shr head), some (.int (vec x c)), some (eRow .shr (x.map fun e => vec head c * e)), none, some (.int i)], ?_, by simp⟩
    simp [p_l_rank_c4, eRow, shares_ints, b1, b2, m]) (by simp; omega)
  rw [← rngL_0] at k2
  have k2' : (List.range w).map (fun (i : Nat) => D.int (vec head c * vec x i - vec x c * vec head i)) = eI ((List.range w).map fun i => vec head c * vec x i - vec x c * vec head i) := by simp [eI]
  rw [k2', List.nil_append] at k2
  have k3 := compL_mapT (bind := bindT (.name 11)) (cond := evC (G k) .no) (elt := evE (G k) p_l_rank_c3) (vs := [11]) (ρ := [some (.lst .own (rs.map eFR)), x1, some (.int last), some (.int (w : Int)), some (.int (c : Int)), x5, some (.int (j : Int)), x7, some (eRow .shr head), some (.int (vec x c)), some (eRow .shr ((List.range w).map fun i => vec head c * vec x i - vec x c * vec head i)), none, none]) D.int (fun e => .int (e / last)) ((List.range w).map fun i => vec head c * vec x i - vec x c * vec head i) (acc := []) (fun e he => by
    obtain ⟨i, _, rfl⟩ := List.mem_map.mp he
    have hf : last.natAbs.log2 < 9000 ∨ (vec head c * vec x i - vec x c * vec head i).natAbs.log2 < 13530 := by
      rcases hF.d with q | q
      · exact .inl (log_lt hll q (by omega))
      · refine .inr (log_lt (B := 2 * (S * S)) ?_ q (by omega))
        have h1 := Nat.mul_le_mul (hhS c) (hxS i)
        have h2 := Nat.mul_le_mul (hxS c) (hhS i)
        rw [← Int.natAbs_mul] at h1 h2
        have := Int.natAbs_sub_le (vec head c * vec x i) (vec x c * vec head i)
        omega
    have fd := fdiv_ex hlast (hdv i) hf
    refine ⟨[some (.lst .own (rs.map eFR)), x1, some (.int last), some (.int (w : Int)), some (.int (c : Int)), x5, some (.int (j : Int)), x7, some (eRow .shr head), some (.int (vec x c)), some (eRow .shr ((List.range w).map fun i => vec head c * vec x i - vec x c * vec head i)), some (.int (vec head c * vec x i - vec x c * vec head i)), none], ?_, by simp⟩
    simp [p_l_rank_c3, -b_fdiv, fd]) (by simp; omega)
  have k3' : ((List.range w).map fun i => vec head c * vec x i - vec x c * vec head i).map (fun e => D.int (e / last)) = eI (barStep c head last x) := by
    rw [List.map_map]
    unfold eI
    have : (List.range w).map (fun i => (vec head c * vec x i - vec x c * vec head i) / last) = barStep c head last x := by
      apply vec_inj
      · simp [barStep, hxl, hhl]
      · intro i
        rw [barStep_at hhl hxl]
        by_cases hi : i < w
        · rw [vec_in (by simpa using hi)]; simp
        · have q1 : vec x i = 0 := vec_out (by omega)
          have q2 : vec head i = 0 := vec_out (by omega)
          rw [vec_out (by simp; omega), q1, q2]; simp
    rw [← this, List.map_map]
    rfl
  rw [k3', List.nil_append] at k3
  change compL _ _ _ _ (eI _) _ _ = _ at k3
  have sk1 : shares (eI (x.map fun e => vec head c * e)) = eI (x.map fun e => vec head c * e) := shares_ints _
  generalize hV : (x.map fun e => vec head c * e) = V at *
  generalize hW : ((List.range w).map fun i => vec head c * vec x i - vec x c * vec head i) = W at *
  generalize hB : barStep c head last x = B at *
  have cl : closedL (eI V) = true := by
    rw [closedL_all]; simp [eI]
  have es := eFR_set rs j .own B
  refine ⟨some (.int (vec x c)), some (eRow .shr W), ?_⟩
  simp only [eRow] at *
  simp [p_l_rank_l2, sh, sh2, a1, eRow, shares_ints, a2, k1, cl, gW, k2, shares_ints, k3, ij, es, -List.map_set]
end K03

namespace K03
open FL LA
/-! U7: the rank of rows, the columns. -/
theorem swap_drop (R : List (List Int)) (n i : Nat) (rn : List Int) (hn : R[n]? = some rn) : (R.set (n + i) rn).drop (n + 1) = swapP (R.drop n) i := by
  unfold swapP
  have hn' := (List.getElem?_eq_some_iff.mp hn)
  have h1 : (R.drop n).headD [] = rn := by
    rw [List.drop_eq_getElem_cons hn'.1]; simp [hn'.2]
  rw [h1, ← List.drop_one, List.set_drop, List.drop_drop]
theorem rngL_succ (n m : Nat) : rngL (n : Int) (m + 1) = .int (n : Int) :: rngL ((n + 1 : Nat) : Int) m := by
  simp only [rngL, List.range_succ_eq_map, List.map_cons, List.map_map]
  congr 1
  apply List.map_congr_left
  intro a _
  simp only [Function.comp, D.int.injEq]
  omega
theorem elim_loop (k w c : Nat) (last : Int) (head : List Int) (hc : c < w) (hw : w ≤ 9) (hhl : head.length = w) {S L : Nat} (hF : RankFit S L) (hlast : last ≠ 0) (hll : last.natAbs ≤ L) (hhS : Bd S (vec head)) (x1 x5 x7 : Option D) :
    ∀ (m n : Nat) (rs : List FR), n + m = rs.length → Loose rs → (∀ x ∈ (rowsOf rs).drop n, x.length = w ∧ Bd S (vec x) ∧ ∀ i, last ∣ vec head c * vec x i - vec x c * vec head i) → ∀ (x6 x9 x10 : Option D),
    ∃ (rs' : List FR) (y6 y9 y10 : Option D), forL (bindT (.name 6)) (exSs (G k) p_l_rank_l2) (rngL n m) [some (.lst .own (rs.map eFR)), x1, some (.int last), some (.int (w : Int)), some (.int (c : Int)), x5, x6, x7, some (eRow .shr head), x9, x10, none, none] =
      some (.nx [some (.lst .own (rs'.map eFR)), x1, some (.int last), some (.int (w : Int)), some (.int (c : Int)), x5, y6, x7, some (eRow .shr head), y9, y10, none, none]) ∧ Loose rs' ∧ rs'.length = rs.length ∧ rowsOf rs' = (rowsOf rs).take n ++ ((rowsOf rs).drop n).map (barStep c head last)
  | 0, n, rs, h, hL, _, x6, x9, x10 => by
    refine ⟨rs, x6, x9, x10, rfl, hL, rfl, ?_⟩
    have h0 : (rowsOf rs).length ≤ n := by simp [rowsOf]; omega
    rw [List.take_of_length_le h0, List.drop_eq_nil_of_le h0]; simp
  | m + 1, n, rs, h, hL, hx, x6, x9, x10 => by
    have hn : n < (rowsOf rs).length := by simp [rowsOf]; omega
    obtain ⟨x, hxn⟩ : ∃ x, (rowsOf rs)[n]? = some x := ⟨_, List.getElem?_eq_getElem hn⟩
    have ed : (rowsOf rs).drop n = x :: (rowsOf rs).drop (n + 1) := by
      rw [List.drop_eq_getElem_cons hn, (List.getElem?_eq_some_iff.mp hxn).2]
    obtain ⟨q1, q2, q3⟩ := hx x (by rw [ed]; simp)
    obtain ⟨y9, y10, st⟩ := rank_step k rs hL w c n last head x hxn hc hw q1 hhl hF hlast hll q2 hhS q3 x1 x5 x6 x7 x9 x10 none none ⟨rfl, rfl⟩
    obtain ⟨ρ1, e1, e2⟩ := bnd st
    have hro : rowsOf (rs.set n (.own, barStep c head last x)) = (rowsOf rs).set n (barStep c head last x) := rowsOf_set _ _ _
    obtain ⟨rs', y6, y9', y10', ih, i1, i2, i3⟩ := elim_loop k w c last head hc hw hhl hF hlast hll hhS x1 x5 x7 m (n + 1) (rs.set n (.own, barStep c head last x)) (by rw [List.length_set]; omega) (hL.set rfl) (fun y hy => by
      rw [hro, List.drop_set_of_lt (by omega)] at hy
      exact hx y (by rw [ed]; simp [hy])) none y9 y10
    refine ⟨rs', y6, y9', y10', ?_, i1, by rw [i2, List.length_set], ?_⟩
    · rw [rngL_succ]
      unfold forL
      rw [e1]
      simp only [Option.bind_some, e2]
      exact ih
    · rw [i3, hro, List.drop_set_of_lt (by omega), ed, List.map_cons]
      have : ((rowsOf rs).set n (barStep c head last x)).take (n + 1) = (rowsOf rs).take n ++ [barStep c head last x] := by
        rw [List.take_succ_eq_append_getElem (by rw [List.length_set]; exact hn), List.take_set_of_le (by omega)]
        simp
      rw [this]; simp
theorem rank_loop (k w : Nat) (hw : w ≤ 9) {S L : Nat} (hF : RankFit S L) : ∀ (m c n : Nat) (rs : List FR) (last : Int), c + m = w → n ≤ rs.length → rs.length ≤ 1000 → Loose rs → (∀ x ∈ rowsOf rs, x.length = w) → BarOk S L (List.range' c m) ((rowsOf rs).drop n) last → ∀ x4 x5 x6 x8 x9 x10 : Option D,
    ∃ (y0 y2 y4 y5 y6 y8 y9 y10 : Option D), forL (bindT (.name 4)) (exSs (G k) p_l_rank_l1) (rngL c m) [some (.lst .own (rs.map eFR)), some (.int (n : Int)), some (.int last), some (.int (w : Int)), x4, x5, x6, none, x8, x9, x10, none, none] =
      some (.nx [y0, some (.int ((n + barR (List.range' c m) ((rowsOf rs).drop n) last : Nat) : Int)), y2, some (.int (w : Int)), y4, y5, y6, none, y8, y9, y10, none, none])
  | 0, c, n, rs, last, _, _, _, _, _, _, x4, x5, x6, x8, x9, x10 => ⟨some (.lst .own (rs.map eFR)), some (.int last), x4, x5, x6, x8, x9, x10, rfl⟩
  | m + 1, c, n, rs, last, hm, hn, hz, hL, hl, hB, x4, x5, x6, x8, x9, x10 => by
    have hc : c < w := by omega
    have er : List.range' c (m + 1) = c :: List.range' (c + 1) m := rfl
    rw [er] at hB ⊢
    obtain ⟨y6, ef⟩ := find_loop k rs hL c w hc hl (some (.int (n : Int))) (some (.int last)) (some (.int (w : Int))) none x8 x9 x10 none none (rs.length - n) n (-1) x6 (by omega)
    have g2 := rng2O_nat n rs.length (by omega) (by omega)
    cases hf : findP c ((rowsOf rs).drop n) with
    | none =>
      have hB' : BarOk S L (List.range' (c + 1) m) ((rowsOf rs).drop n) last := by
        unfold BarOk at hB; rw [hf] at hB; exact hB
      have hR : barR (c :: List.range' (c + 1) m) ((rowsOf rs).drop n) last = barR (List.range' (c + 1) m) ((rowsOf rs).drop n) last := by
        conv => lhs; unfold barR
        rw [hf]
      rw [hf] at ef
      simp only at ef
      obtain ⟨y0, y2, y4, y5, y6', y8, y9, y10, ih⟩ := rank_loop k w hw hF m (c + 1) n rs last (by omega) hn hz hL hl hB' (some (.int (c : Int))) (some (.int (-1))) y6 x8 x9 x10
      refine ⟨y0, y2, y4, y5, y6', y8, y9, y10, ?_⟩
      have st : (bindT (.name 4) (.int (c : Int)) [some (.lst .own (rs.map eFR)), some (.int (n : Int)), some (.int last), some (.int (w : Int)), x4, x5, x6, none, x8, x9, x10, none, none]).bind (exSs (G k) p_l_rank_l1) =
          some (.nx [some (.lst .own (rs.map eFR)), some (.int (n : Int)), some (.int last), some (.int (w : Int)), some (.int (c : Int)), some (.int (-1)), y6, none, x8, x9, x10, none, none]) := by
        simp at ef
        simp [p_l_rank_l1, g2, ef]
      rw [rngL_succ, forL_nx st, hR]
      exact ih
    | some i =>
      obtain ⟨head, hi, hcz⟩ := find_some hf
      have eg : ((rowsOf rs).drop n)[i]?.getD [] = head := by rw [hi]; rfl
      have hB' : last ≠ 0 ∧ last.natAbs ≤ L ∧ (∀ r ∈ (rowsOf rs).drop n, Bd S (vec r)) ∧ (∀ r ∈ swapP ((rowsOf rs).drop n) i, ∀ j, last ∣ vec head c * vec r j - vec r c * vec head j) ∧ BarOk S L (List.range' (c + 1) m) ((swapP ((rowsOf rs).drop n) i).map (barStep c head last)) (vec head c) := by
        unfold BarOk at hB; rw [hf] at hB; simp only [eg] at hB; exact hB
      have hR : barR (c :: List.range' (c + 1) m) ((rowsOf rs).drop n) last = 1 + barR (List.range' (c + 1) m) ((swapP ((rowsOf rs).drop n) i).map (barStep c head last)) (vec head c) := by
        conv => lhs; unfold barR
        rw [hf]
        simp only [eg]
      rw [hf] at ef
      simp only at ef
      obtain ⟨b1, b2, b3, b4, b5⟩ := hB'
      have hiR : (rowsOf rs)[n + i]? = some head := by rw [List.getElem?_drop] at hi; exact hi
      have hlt : n + i < rs.length := by
        have := (List.getElem?_eq_some_iff.mp hiR).1
        simpa [rowsOf] using this
      have hhl := hl head (List.mem_of_getElem? hiR)
      have hm0 : head ∈ (rowsOf rs).drop n := List.mem_of_getElem? hi
      obtain ⟨rn, hrn⟩ : ∃ rn, (rowsOf rs)[n]? = some rn := ⟨_, List.getElem?_eq_getElem (by simp [rowsOf]; omega)⟩
      -- the rows behind the swap
      obtain ⟨p, hp, hp2⟩ : ∃ p, rs[n + i]? = some p ∧ p.2 = head := by
        rw [rowsOf, List.getElem?_map] at hiR
        obtain ⟨p, e, q⟩ := mpd hiR
        exact ⟨p, e, q⟩
      have hps : share (eFR p) = eRow .shr head := by rw [eFR, share_row, hL p (List.mem_of_getElem? hp), hp2]
      obtain ⟨q, hq, hq2, hqs⟩ : ∃ q, (rs.set (n + i) (.shr, head))[n]? = some q ∧ q.2 = rn ∧ share (eFR q) = eRow .shr rn := by
        by_cases hi0 : i = 0
        · subst hi0
          have : head = rn := by rw [Nat.add_zero] at hiR; rw [hiR] at hrn; exact Option.some.inj hrn
          refine ⟨(.shr, head), ?_, this, by rw [eFR, share_row, this]; rfl⟩
          rw [Nat.add_zero, List.getElem?_set_self (by omega)]
        · rw [rowsOf, List.getElem?_map] at hrn
          obtain ⟨q, e, e2⟩ := mpd hrn
          refine ⟨q, by rw [List.getElem?_set_ne (by omega)]; exact e, e2, by rw [eFR, share_row, hL q (List.mem_of_getElem? e), e2]⟩
      have hL4 : Loose ((((rs.set (n + i) (.shr, head)).set n (.shr, rn)).set (n + i) (.shr, rn)).set n (.shr, head)) := (((hL.set rfl).set rfl).set rfl).set rfl
      have l4 : ((((rs.set (n + i) (.shr, head)).set n (.shr, rn)).set (n + i) (.shr, rn)).set n (.shr, head)).length = rs.length := by simp
      have r4 : (rowsOf ((((rs.set (n + i) (.shr, head)).set n (.shr, rn)).set (n + i) (.shr, rn)).set n (.shr, head))).drop (n + 1) = swapP ((rowsOf rs).drop n) i := by
        rw [← swap_drop (rowsOf rs) n i rn hrn]
        simp only [rowsOf_set]
        apply List.ext_getElem?
        intro j
        simp only [List.getElem?_drop, List.getElem?_set, List.length_set]
        repeat' split
        all_goals first | rfl | omega
      have hx4 : ∀ x ∈ rowsOf ((((rs.set (n + i) (.shr, head)).set n (.shr, rn)).set (n + i) (.shr, rn)).set n (.shr, head)), x.length = w := by
        intro x hx
        simp only [rowsOf_set] at hx
        have hrnl := hl rn (List.mem_of_getElem? hrn)
        rcases List.mem_or_eq_of_mem_set hx with hx | hx
        · rcases List.mem_or_eq_of_mem_set hx with hx | hx
          · rcases List.mem_or_eq_of_mem_set hx with hx | hx
            · rcases List.mem_or_eq_of_mem_set hx with hx | hx
              · exact hl x hx
              · rw [hx]; exact hhl
            · rw [hx]; exact hrnl
          · rw [hx]; exact hrnl
        · rw [hx]; exact hhl
      have u1 := eFR_set rs (n + i) .shr head
      have u2 := eFR_set (rs.set (n + i) (.shr, head)) n .shr rn
      have u3 := eFR_set ((rs.set (n + i) (.shr, head)).set n (.shr, rn)) (n + i) .shr rn
      have u4 := eFR_set (((rs.set (n + i) (.shr, head)).set n (.shr, rn)).set (n + i) (.shr, rn)) n .shr head
      have sm := swap_mem hi
      generalize hrs4 : (((rs.set (n + i) (.shr, head)).set n (.shr, rn)).set (n + i) (.shr, rn)).set n (.shr, head) = rs4 at *
      obtain ⟨rs', z6, z9, z10, el, L', l', ro'⟩ := elim_loop k w c last head hc hw hhl hF b1 b2 (b3 head hm0) (some (.int ((n : Nat) : Int))) none none (rs4.length - (n + 1)) (n + 1) rs4 (by omega) hL4 (fun x hx => by
        refine ⟨hx4 x (List.mem_of_mem_drop hx), ?_, ?_⟩
        · rw [r4] at hx; exact b3 x ((sm x).mp (by simp [hx]))
        · rw [r4] at hx; exact b4 x hx) y6 x9 x10
      rw [r4] at ro'
      have hd' : (rowsOf rs').drop (n + 1) = (swapP ((rowsOf rs).drop n) i).map (barStep c head last) := by
        rw [ro', List.drop_left' (by rw [List.length_take, rowsOf, List.length_map]; omega)]
      obtain ⟨y0, y2, y4, y5, y6', y8, y9, y10, ih⟩ := rank_loop k w hw hF m (c + 1) (n + 1) rs' (vec head c) (by omega) (by omega) (by omega) L' (fun x hx => by
        rw [ro'] at hx
        rcases List.mem_append.mp hx with hx | hx
        · exact hx4 x (List.mem_of_mem_take hx)
        · obtain ⟨y, hy, rfl⟩ := List.mem_map.mp hx
          have hy' := (sm y).mp (by simp [hy])
          exact barStep_len hhl (hl y (List.mem_of_mem_drop hy'))) (by rw [hd']; exact b5) none none z6 none z9 z10
      rw [hd'] at ih
      refine ⟨y0, y2, y4, y5, y6', y8, y9, y10, ?_⟩
      have g3 := rng2O_nat (n + 1) rs4.length (by omega) (by omega)
      have i1 : L2.ixN rs.length ((n : Int) + (i : Int)) = some (n + i) := by
        have := ixN_ok rs.length (n + i) hlt
        rwa [Int.natCast_add] at this
      have i2 : L2.ixN rs.length (n : Int) = some n := ixN_ok rs.length n (by omega)
      have ah := at_vec head c (by omega)
      have st : (bindT (.name 4) (.int (c : Int)) [some (.lst .own (rs.map eFR)), some (.int (n : Int)), some (.int last), some (.int (w : Int)), x4, x5, x6, none, x8, x9, x10, none, none]).bind (exSs (G k) p_l_rank_l1) =
          some (.nx [some (.lst .own (rs'.map eFR)), some (.int ((n + 1 : Nat) : Int)), some (.int (vec head c)), some (.int (w : Int)), none, none, z6, none, none, z9, z10, none, none]) := by
        simp at ef g3 el
        have pos : (0 : Int) ≤ (n : Int) + (i : Int) := by omega
        simp only [eRow] at *
        simp [p_l_rank_l1, g2, ef, pos, i1, hp, hps, u1, i2, hq, hqs, u2, u3, u4, g3, el, ah, -List.map_set]
      rw [rngL_succ, forL_nx st, hR]
      have e1 : n + (1 + barR (List.range' (c + 1) m) ((swapP ((rowsOf rs).drop n) i).map (barStep c head last)) (vec head c)) = n + 1 + barR (List.range' (c + 1) m) ((swapP ((rowsOf rs).drop n) i).map (barStep c head last)) (vec head c) := by omega
      rw [e1]
      exact ih
theorem l_rank_ok (k : Nat) {w B : Nat} (hw : w ≤ 9) (f : Fl) (rows : List (List Int)) (hB : 1 ≤ B) (hl : ∀ r ∈ rows, r.length = w) (hb : ∀ r ∈ rows, Bd B (vec r)) (hz : rows.length ≤ 1000) (hF : RankFit (fact w * B ^ w) (fact (w - 1) * B ^ (w - 1))) :
    run T (k + 1) i_l_rank [.lst f (rows.map (eRow f))] = some (.int (redR rows).length, [none]) := by
  rw [r_l_rank, runFn_eq rfl]
  have sh1 : shares (rows.map (eRow f)) = rows.map (eRow f.sh) := shares_rows f rows
  have sh2 : shares (rows.map (eRow f.sh)) = rows.map (eRow f.sh) := by rw [shares_rows, Fl.sh_sh]
  cases rows with
  | nil =>
    simp [f_l_rank, b_l_rank, compL, shares, eqD_int, redR]
  | cons r0 rows0 =>
    generalize hR : r0 :: rows0 = rows at *
    have hne : ¬ (rows.length = 0) := by rw [← hR]; simp
    have key := compL_mapT (bind := bindT (.name 7)) (cond := evC (G k) .no) (elt := evE (G k) p_l_rank_c7) (vs := [7]) (ρ := [some (.lst f.sh (rows.map (eRow f.sh))), none, none, none, none, none, none, none, none, none, none, none, none]) (eRow f.sh) (eRow .own) rows (acc := []) (fun r hr => by
      refine ⟨[some (.lst f.sh (rows.map (eRow f.sh))), none, none, none, none, none, none, some (eRow f.sh r), none, none, none, none, none], ?_, by simp⟩
      have : f.sh.sh = f.sh := Fl.sh_sh f
      simp [p_l_rank_c7, eRow, shares_ints]) (by simp; omega)
    rw [List.nil_append] at key
    obtain ⟨q1, q2⟩ := rank_ok hB hl hb
    have ro : rowsOf (rows.map fun r => ((.own : Fl), r)) = rows := by simp [rowsOf, Function.comp_def]
    have em : (rows.map fun r => ((.own : Fl), r)).map eFR = rows.map (eRow .own) := by rw [List.map_map]; rfl
    obtain ⟨y0, y2, y4, y5, y6, y8, y9, y10, e⟩ := rank_loop k w hw hF w 0 0 (rows.map fun r => ((.own : Fl), r)) 1 (by omega) (by omega) (by simpa using hz) (fun p hp => by
      obtain ⟨r, _, rfl⟩ := List.mem_map.mp hp; rfl) (by rw [ro]; exact hl) (by rw [ro]; exact q1) none none none none none none
    rw [ro, List.drop_zero, q2 (redR rows) (red_can hl) (fun u => red_span hl u), Nat.zero_add, em] at e
    have a0 : ∃ r, rows[0]? = some r ∧ r.length = w := ⟨r0, by rw [← hR]; rfl, hl r0 (by rw [← hR]; simp)⟩
    obtain ⟨r, hr, hrl⟩ := a0
    have cl : closedL (rows.map (eRow .own)) = true := by
      rw [closedL_all]
      simp only [List.all_map, List.all_eq_true]
      intro x _
      simp [eRow, closedL_all, eI]
    have sho : shares (rows.map (eRow .own)) = rows.map (eRow .shr) := shares_rows .own rows
    have shs : shares (rows.map (eRow .shr)) = rows.map (eRow .shr) := shares_rows .shr rows
    have ai : L2.atI (rows.map (eRow .shr)) 0 = some (eRow .shr r) := by
      have := atI_rows rows 0 r hr
      simpa using this
    have gW := rngO_nat (w : Int) w rfl (by omega)
    simp at e
    simp [f_l_rank, b_l_rank, sh1, sh2, key, cl, sho, shs, eqD_int, hne, ai, gW]
    simp [eRow, hrl] at *
    simp [gW, e]
end K03

namespace K03
open FL LA
/-! U8: a canonical basis is a space (the law's check). -/
theorem minI_mem : ∀ (ns : List Int), ns ≠ [] → minI ns ∈ ns
  | [], h => absurd rfl h
  | [a], _ => by simp [minI]
  | a :: b :: t, _ => by
    have ih := minI_mem (b :: t) (by simp)
    simp only [minI]
    rcases (by omega : min a (minI (b :: t)) = a ∨ min a (minI (b :: t)) = minI (b :: t)) with q | q <;> rw [q]
    · simp
    · exact List.mem_cons_of_mem _ ih
theorem minI_le : ∀ (ns : List Int), ∀ x ∈ ns, minI ns ≤ x
  | [], x, h => by simp at h
  | [a], x, h => by simp at h; subst h; simp [minI]
  | a :: b :: t, x, h => by
    simp only [minI]
    rcases List.mem_cons.mp h with rfl | h
    · omega
    · have := minI_le (b :: t) x h; omega
/-- the places of the entries that are not 0 -/
def nzI (w : Nat) (b : List Int) : List Int := ((List.range w).filter fun j => decide (vec b j ≠ 0)).map fun (j : Nat) => (j : Int)
theorem nz_piv {w : Nat} {b : List Int} (hl : b.length = w) (h : piv b < b.length) : nzI w b ≠ [] ∧ minI (nzI w b) = piv b := by
  have m : ((piv b : Nat) : Int) ∈ nzI w b := by
    refine List.mem_map.mpr ⟨piv b, ?_, rfl⟩
    rw [List.mem_filter]
    exact ⟨by simp; omega, by simpa using piv_at h⟩
  have ne : nzI w b ≠ [] := List.ne_nil_of_mem m
  refine ⟨ne, ?_⟩
  have h1 := minI_le _ _ m
  obtain ⟨j, hj, e⟩ := List.mem_map.mp (minI_mem _ ne)
  change ((j : Nat) : Int) = minI (nzI w b) at e
  rw [List.mem_filter] at hj
  have hn : vec b j ≠ 0 := by simpa using hj.2
  have : piv b ≤ j := by
    rcases Nat.lt_or_ge j (piv b) with q | q
    · exact absurd (piv_before b q) hn
    · exact q
  omega
theorem atI_neg1 {α : Type} (xs : List α) (h : xs ≠ []) : L2.atI xs (-1) = some (xs.getLast h) := by
  have hl := List.length_pos_iff.mpr h
  unfold L2.atI L2.ixN
  rw [if_neg (by omega), if_pos (by omega)]
  have : (-1 + (xs.length : Int)).toNat = xs.length - 1 := by omega
  rw [this]
  show xs[xs.length - 1]? = _
  rw [List.getLast_eq_getElem, List.getElem?_eq_getElem]
theorem cnt_col {w : Nat} {bs : List (List Int)} (h : Can w bs) {b : List Int} (hb : b ∈ bs) : (bs.filter fun r => decide (vec r (piv b) ≠ 0)).length = 1 := by
  have e : bs.filter (fun r => decide (vec r (piv b) ≠ 0)) = bs.filter (fun r => decide (piv r = piv b)) := by
    apply List.filter_congr
    intro r hr
    by_cases q : piv r = piv b
    · have := (h.nice r hr).ne
      rw [q] at this
      simp [this, q]
    · have := h.red r hr b hb q
      simp [this, q]
  rw [e]
  have nd := asc_nodup h.ech.asc
  have : ∀ (l : List (List Int)), (l.map piv).Nodup → b ∈ l → (l.filter fun r => decide (piv r = piv b)).length = 1 := by
    intro l
    induction l with
    | nil => intro _ hm; simp at hm
    | cons x l ih =>
      intro hn hm
      rw [List.map_cons, List.nodup_cons] at hn
      by_cases q : piv x = piv b
      · rw [List.filter_cons_of_pos (by simpa using q)]
        have : l.filter (fun r => decide (piv r = piv b)) = [] := by
          rw [List.filter_eq_nil_iff]
          intro r hr hq
          have hq : piv r = piv b := by simpa using hq
          exact hn.1 (by rw [q, ← hq]; exact List.mem_map_of_mem hr)
        rw [this]; rfl
      · rw [List.filter_cons_of_neg (by simpa using q)]
        rcases List.mem_cons.mp hm with rfl | hm
        · exact absurd rfl q
        · exact ih hn.2 hm
  exact this bs nd hb
end K03

namespace K03
open FL LA
/-! U9: space. -/
theorem is_width_ok (k w : Nat) (h0 : 1 ≤ w) (h1 : w ≤ 9) : run T (k + 3) i_is_width [.int (w : Int)] = some (.bl true, [none]) := by
  have e := is_index_int k (w : Int) 10
  have a1 : (w : Int) < 10 := by omega
  have a2 : 0 < w := by omega
  rw [r_is_width, runFn_eq rfl]
  simp [f_is_width, b_is_width, e, a1, a2]
end K03

namespace K03
open FL LA
/-! U10: the law's own canonical basis. -/
theorem filt_first : ∀ (xs : List Int), piv xs < xs.length → ∃ t, xs.filter (fun x => decide (x ≠ 0)) = vec xs (piv xs) :: t
  | [], h => by simp at h
  | x :: xs, h => by
    by_cases hx : x = 0
    · subst hx
      simp only [piv, if_true, List.length_cons] at h ⊢
      obtain ⟨t, e⟩ := filt_first xs (by omega)
      exact ⟨t, by rw [vec_s, ← e]; simp⟩
    · refine ⟨xs.filter (fun x => decide (x ≠ 0)), ?_⟩
      simp only [piv, hx, if_false, vec_0]
      rw [List.filter_cons_of_pos (by simpa using hx)]
theorem l_lowest_ok (k : Nat) (f : Fl) (xs : List Int) (hx : Fit xs) (hz : xs.length ≤ 1000) : run T (k + 2) i_l_lowest [.lst f (eI xs)] = some (eRow .own (prim xs), [none]) := by
  have e1 := l_divisor_ok k f.sh xs
  rw [r_l_lowest, runFn_eq rfl]
  by_cases hg : gcdL xs = 0
  · have : prim xs = xs := prim_z (gcdL_0.mp hg)
    rw [this]
    simp [f_l_lowest, b_l_lowest, e1, eqD_int, hg, shares_ints, eRow]
  · have hg' : ¬ ((gcdL xs : Int) = 0) := by omega
    have hp : piv xs < xs.length := by
      rcases Nat.lt_or_eq_of_le (piv_le xs) with q | q
      · exact q
      · exact absurd (gcdL_0.mpr (piv_zero.mp q)) hg
    obtain ⟨t, et⟩ := filt_first xs hp
    have hpos : (0 : Int) < gcdL xs := by omega
    have hf := compL_filt (bind := bindT (.name 3)) (cond := evC (G (k + 1)) (.yes (.cmp .ne (.var 3) (.cst (.int 0))))) (elt := evE (G (k + 1)) p_l_lowest_c2) (vs := [3]) (ρ := [some (D.lst f.sh (eI xs)), some (.int (gcdL xs : Int)), none, none]) D.int D.int (fun x => decide (x ≠ 0)) xs (acc := []) (fun x _ => by
      refine ⟨[some (D.lst f.sh (eI xs)), some (.int (gcdL xs : Int)), none, some (.int x)], [some (D.lst f.sh (eI xs)), some (.int (gcdL xs : Int)), none, some (.int x)], [some (D.lst f.sh (eI xs)), some (.int (gcdL xs : Int)), none, some (.int x)], by simp, ?_, by simp, fun _ => ⟨by simp [p_l_lowest_c2], by simp⟩⟩
      by_cases q : x = 0 <;> simp [eqD_int, q]) (by simp; omega)
    rw [List.nil_append, et] at hf
    change compL _ _ _ _ (eI xs) _ _ = some (eI (vec xs (piv xs) :: t), _) at hf
    have a0 : L2.atI (eI (vec xs (piv xs) :: t)) 0 = some (.int (vec xs (piv xs))) := by simp [eI]
    generalize hN : (vec xs (piv xs) :: t) = Nz at *
    by_cases hs : vec xs (piv xs) < 0
    · have key := compL_mapT (bind := bindT (.name 3)) (cond := evC (G (k + 1)) .no) (elt := evE (G (k + 1)) p_l_lowest_c1) (vs := [3]) (ρ := [some (D.lst f.sh (eI xs)), some (.int (-(gcdL xs : Int))), some (eRow .shr Nz), none]) D.int (fun x => .int (-(x / (gcdL xs : Int)))) xs (acc := []) (fun x hxm => by
        refine ⟨[some (D.lst f.sh (eI xs)), some (.int (-(gcdL xs : Int))), some (eRow .shr Nz), some (.int x)], ?_, by simp⟩
        obtain ⟨j, rfl⟩ := mem_vec hxm
        obtain ⟨q, hq⟩ := gcdL_dvd xs j
        have h3 := hx _ hxm
        have e3 : (vec xs j).fdiv (-(gcdL xs : Int)) = -(vec xs j / (gcdL xs : Int)) := by
          rw [hq, Int.mul_ediv_cancel_left _ (by omega), Int.fdiv_eq_of_eq_mul_right (by omega)]
          rw [Int.neg_mul_neg]
        simp [p_l_lowest_c1, h3, hg, e3]) (by simp; omega)
      have e4 : prim xs = xs.map fun e => -(e / (gcdL xs : Int)) := by unfold prim; rw [if_neg hg, if_pos hs]
      have e5 : xs.map (fun x => D.int (-(x / (gcdL xs : Int)))) = eI (prim xs) := by rw [e4]; simp [eI]
      rw [e5, List.nil_append] at key
      change compL _ _ _ _ (eI xs) _ _ = _ at key
      simp only [eRow] at *
      simp [f_l_lowest, b_l_lowest, e1, hf, a0, hs, eqD_int, hg, shares_ints, key]
    · have key := compL_mapT (bind := bindT (.name 3)) (cond := evC (G (k + 1)) .no) (elt := evE (G (k + 1)) p_l_lowest_c1) (vs := [3]) (ρ := [some (D.lst f.sh (eI xs)), some (.int (gcdL xs : Int)), some (eRow .shr Nz), none]) D.int (fun x => .int (x / (gcdL xs : Int))) xs (acc := []) (fun x hxm => by
        refine ⟨[some (D.lst f.sh (eI xs)), some (.int (gcdL xs : Int)), some (eRow .shr Nz), some (.int x)], ?_, by simp⟩
        have h3 := hx _ hxm
        have hg2 : 0 < gcdL xs := by omega
        simp [p_l_lowest_c1, h3, hg2]) (by simp; omega)
      have e4 : prim xs = xs.map fun e => e / (gcdL xs : Int) := by unfold prim; rw [if_neg hg, if_neg hs]
      have e5 : xs.map (fun x => D.int (x / (gcdL xs : Int))) = eI (prim xs) := by rw [e4]; simp [eI]
      rw [e5, List.nil_append] at key
      change compL _ _ _ _ (eI xs) _ _ = _ at key
      simp only [eRow] at *
      simp [f_l_lowest, b_l_lowest, e1, hf, a0, hs, eqD_int, hg, shares_ints, key]
theorem cfind_step (k : Nat) (rs : List FR) (hL : Loose rs) (c j : Nat) (at_ : Int) (x : List Int) (hx : (rowsOf rs)[j]? = some x) (hc : c < x.length) (x1 x2 x5 x6 x7 x8 x9 x10 x11 : Option D) :
    (bindT (.name 5) (.int (j : Int)) [some (.lst .own (rs.map eFR)), x1, x2, some (.int (c : Int)), some (.int at_), x5, x6, x7, x8, x9, x10, x11]).bind (exSs (G k) p_l_canon_l5) =
      some (.nx [some (.lst .own (rs.map eFR)), x1, x2, some (.int (c : Int)), some (.int (if at_ < 0 ∧ vec x c ≠ 0 then (j : Int) else at_)), if at_ < 0 ∧ vec x c ≠ 0 then none else some (.int (j : Int)), x6, x7, x8, x9, x10, x11]) := by
  have a1 := atI_rows (rowsOf rs) j x hx
  have a2 := at_vec x c hc
  have sh := hL.shares
  rw [show rs.map (·.2) = rowsOf rs from rfl] at sh
  have sh2 : shares ((rowsOf rs).map (eRow .shr)) = (rowsOf rs).map (eRow .shr) := shares_rows .shr _
  by_cases q1 : at_ < 0
  · by_cases q2 : vec x c = 0
    · simp [p_l_canon_l5, q1, q2, sh, sh2, a1, eRow, shares_ints, a2, eqD_int]
    · simp [p_l_canon_l5, q1, q2, sh, sh2, a1, eRow, shares_ints, a2, eqD_int]
  · simp [p_l_canon_l5, q1]
theorem cfind_loop (k : Nat) (rs : List FR) (hL : Loose rs) (c w : Nat) (hc : c < w) (hw : ∀ x ∈ rowsOf rs, x.length = w) (x1 x2 x6 x7 x8 x9 x10 x11 : Option D) : ∀ (m n : Nat) (at_ : Int) (x5 : Option D), n + m = rs.length →
    ∃ y5, forL (bindT (.name 5)) (exSs (G k) p_l_canon_l5) (rngL n m) [some (.lst .own (rs.map eFR)), x1, x2, some (.int (c : Int)), some (.int at_), x5, x6, x7, x8, x9, x10, x11] =
      some (.nx [some (.lst .own (rs.map eFR)), x1, x2, some (.int (c : Int)), some (.int (if at_ < 0 then (match findP c ((rowsOf rs).drop n) with | some i => ((n + i : Nat) : Int) | none => at_) else at_)), y5, x6, x7, x8, x9, x10, x11])
  | 0, n, at_, x5, h => by
    refine ⟨x5, ?_⟩
    have : (rowsOf rs).drop n = [] := List.drop_eq_nil_of_le (by simp [rowsOf]; omega)
    rw [this]
    simp only [findP, ite_self]
    rfl
  | m + 1, n, at_, x5, h => by
    have hn : n < (rowsOf rs).length := by simp [rowsOf]; omega
    obtain ⟨x, hx⟩ : ∃ x, (rowsOf rs)[n]? = some x := ⟨_, List.getElem?_eq_getElem hn⟩
    have hxl := hw x (List.mem_of_getElem? hx)
    have st := cfind_step k rs hL c n at_ x hx (by omega) x1 x2 x5 x6 x7 x8 x9 x10 x11
    obtain ⟨y5, ih⟩ := cfind_loop k rs hL c w hc hw x1 x2 x6 x7 x8 x9 x10 x11 m (n + 1) (if at_ < 0 ∧ vec x c ≠ 0 then (n : Int) else at_) (if at_ < 0 ∧ vec x c ≠ 0 then none else some (.int (n : Int))) (by omega)
    refine ⟨y5, ?_⟩
    rw [rngL_succ, forL_nx st, ih]
    have ed : (rowsOf rs).drop n = x :: (rowsOf rs).drop (n + 1) := by
      rw [List.drop_eq_getElem_cons hn, (List.getElem?_eq_some_iff.mp hx).2]
    rw [ed]
    congr 4
    simp only [findP]
    by_cases q1 : at_ < 0
    · by_cases q2 : vec x c = 0
      · simp only [q1, q2, true_and, ne_eq, not_true_eq_false, if_false, if_true]
        cases findP c ((rowsOf rs).drop (n + 1)) with
        | none => rfl
        | some i => simp; omega
      · simp only [q1, q2, true_and, ne_eq, not_false_eq_true, if_true]
        rw [if_neg (by omega)]
        simp
    · simp [q1]
def clrX (c : Nat) (head x : List Int) : List Int := if vec x c = 0 then x else clearR x head c
theorem cclear_step (k : Nat) (rs : List FR) (hL : Loose rs) (w c j d : Nat) (head x : List Int) (hx : (rowsOf rs)[j]? = some x) (hc : c < w) (hw : w ≤ 9) (hxl : x.length = w) (hhl : head.length = w) (hfx : Fit x) (hfh : Fit head) (hfw : Fit (clearW x head c)) (x4 x5 x6 x8 x9 : Option D) :
    ∃ (p : FR) (y5 y8 y9 : Option D), p.1.sh = .shr ∧ p.2 = (if j = d then x else clrX c head x) ∧ (bindT (.name 5) (.int (j : Int)) [some (.lst .own (rs.map eFR)), some (.int (w : Int)), some (.int (d : Int)), some (.int (c : Int)), x4, x5, x6, some (eRow .shr head), x8, x9, none, none]).bind (exSs (G (k + 2)) p_l_canon_l2) =
      some (.nx [some (.lst .own ((rs.set j p).map eFR)), some (.int (w : Int)), some (.int (d : Int)), some (.int (c : Int)), x4, y5, x6, some (eRow .shr head), y8, y9, none, none]) := by
  have a1 := atI_rows (rowsOf rs) j x hx
  have a2 := at_vec x c (by omega)
  have sh := hL.shares
  rw [show rs.map (·.2) = rowsOf rs from rfl] at sh
  have sh2 : shares ((rowsOf rs).map (eRow .shr)) = (rowsOf rs).map (eRow .shr) := shares_rows .shr _
  have hj : j < rs.length := by
    have := (List.getElem?_eq_some_iff.mp hx).1
    simpa [rowsOf] using this
  obtain ⟨q, hq, hq2⟩ : ∃ q, rs[j]? = some q ∧ q.2 = x := by
    rw [rowsOf, List.getElem?_map] at hx
    obtain ⟨q, e, e2⟩ := mpd hx
    exact ⟨q, e, e2⟩
  have hself : rs.set j q = rs := by
    apply List.ext_getElem?
    intro i
    by_cases e : i = j
    · subst e; rw [List.getElem?_set_self hj, hq]
    · rw [List.getElem?_set_ne (fun z => e z.symm)]
  have stay : (if j = d then x else clrX c head x) = x → (bindT (.name 5) (.int (j : Int)) [some (.lst .own (rs.map eFR)), some (.int (w : Int)), some (.int (d : Int)), some (.int (c : Int)), x4, x5, x6, some (eRow .shr head), x8, x9, none, none]).bind (exSs (G (k + 2)) p_l_canon_l2) = some (.nx [some (.lst .own (rs.map eFR)), some (.int (w : Int)), some (.int (d : Int)), some (.int (c : Int)), x4, some (.int j), x6, some (eRow .shr head), x8, x9, none, none]) → ∃ (p : FR) (y5 y8 y9 : Option D), p.1.sh = .shr ∧ p.2 = (if j = d then x else clrX c head x) ∧ (bindT (.name 5) (.int (j : Int)) [some (.lst .own (rs.map eFR)), some (.int (w : Int)), some (.int (d : Int)), some (.int (c : Int)), x4, x5, x6, some (eRow .shr head), x8, x9, none, none]).bind (exSs (G (k + 2)) p_l_canon_l2) =
      some (.nx [some (.lst .own ((rs.set j p).map eFR)), some (.int (w : Int)), some (.int (d : Int)), some (.int (c : Int)), x4, y5, x6, some (eRow .shr head), y8, y9, none, none]) := fun h e => ⟨q, some (.int j), x8, x9, hL q (List.mem_of_getElem? hq), by rw [h, hq2], by rw [hself]; exact e⟩
  by_cases hjd : j = d
  · refine stay (by rw [if_pos hjd]) ?_
    subst hjd
    simp [p_l_canon_l2, eqD_int]
  · have hjd' : ¬ ((j : Int) = (d : Int)) := by omega
    by_cases hz : vec x c = 0
    · refine stay (by rw [if_neg hjd, clrX, if_pos hz]) ?_
      simp only [eRow] at *
      simp [p_l_canon_l2, eqD_int, hjd, sh, sh2, a1, eRow, shares_ints, a2, hz]
    · have hh := at_vec head c (by omega)
      have gW := rngO_nat (w : Int) w rfl (by omega)
      have ij : L2.ixN rs.length (j : Int) = some j := ixN_ok _ _ hj
      have k1 := compL_mapT (bind := bindT (.name 10)) (cond := evC (G (k + 2)) .no) (elt := evE (G (k + 2)) p_l_canon_c4) (vs := [10]) (ρ := [some (.lst .shr ((rowsOf rs).map (eRow .shr))), some (.int (w : Int)), some (.int (d : Int)), some (.int (c : Int)), x4.map share, some (.int (j : Int)), x6.map share, some (eRow .shr head), some (.int (vec x c)), x9.map share, none, none]) D.int (fun e => .int (vec head c * e)) x (acc := []) (fun e he => by
        have m := fit_mul (fit_vec hfh c) (hfx e he)
        refine ⟨[some (.lst .shr ((rowsOf rs).map (eRow .shr))), some (.int (w : Int)), some (.int (d : Int)), some (.int (c : Int)), x4.map share, some (.int (j : Int)), x6.map share, some (eRow .shr head), some (.int (vec x c)), x9.map share, some (.int e), none], ?_, by simp⟩
        simp [p_l_canon_c4, eRow, shares_ints, hh, m]) (by simp; omega)
      have k1' : x.map (fun e => D.int (vec head c * e)) = eI (x.map fun e => vec head c * e) := by simp [eI]
      rw [k1', List.nil_append] at k1
      change compL _ _ _ _ (eI x) _ _ = _ at k1
      have k2 := compL_mapT (bind := bindT (.name 11)) (cond := evC (G (k + 2)) .no) (elt := evE (G (k + 2)) p_l_canon_c3) (vs := [11]) (ρ := [some (.lst .own (rs.map eFR)), some (.int (w : Int)), some (.int (d : Int)), some (.int (c : Int)), x4, some (.int (j : Int)), x6, some (eRow .shr head), some (.int (vec x c)), some (eRow .shr (x.map fun e => vec head c * e)), none, none]) (fun (i : Nat) => D.int (i : Int)) (fun (i : Nat) => D.int (vec (clearW x head c) i)) (List.range w) (acc := []) (fun i hi => by
        have hi' : i < w := by simpa using hi
        have m := fit_mul (fit_vec hfx c) (fit_vec hfh i)
        have b1 := at_vec (x.map fun e => vec head c * e) i (by simp; omega)
        rw [vec_map _ (by simp)] at b1
        have b2 := at_vec head i (by omega)
        have b3 : vec (clearW x head c) i = vec head c * vec x i - vec x c * vec head i := by rw [clearW_at (by omega), Int.mul_comm (vec x i), Int.mul_comm (vec head i)]
        rw [b3]
        refine ⟨[some (.lst .own (rs.map eFR)), some (.int (w : Int)), some (.int (d : Int)), some (.int (c : Int)), x4, some (.int (j : Int)), x6, some (eRow .shr head), some (.int (vec x c)), some (eRow .shr (x.map fun e => vec head c * e)), none, some (.int i)], ?_, by simp⟩
        simp [p_l_canon_c3, eRow, shares_ints, b1, b2, m]) (by simp; omega)
      rw [← rngL_0] at k2
      have k2' : (List.range w).map (fun (i : Nat) => D.int (vec (clearW x head c) i)) = eI (clearW x head c) := by
        have : (List.range w).map (fun i => vec (clearW x head c) i) = clearW x head c := by
          apply vec_inj
          · simp [clearW, hxl, hhl]
          · intro i
            by_cases hi : i < w
            · rw [vec_in (by simpa using hi)]; simp
            · rw [vec_out (by simp; omega), vec_out (by rw [clearW_len (by omega)]; omega)]
        conv => rhs; rw [← this]
        simp [eI]
      rw [k2', List.nil_append] at k2
      have lo := l_lowest_ok k .shr (clearW x head c) hfw (by rw [clearW_len (by omega)]; omega)
      generalize hV : (x.map fun e => vec head c * e) = V at *
      have cl : closedL (eI V) = true := by rw [closedL_all]; simp [eI]
      have es := eFR_set rs j .own (clearR x head c)
      refine ⟨(.own, clearR x head c), none, some (.int (vec x c)), none, rfl, by rw [if_neg hjd, clrX, if_neg hz], ?_⟩
      simp only [eRow, clearR] at *
      simp [p_l_canon_l2, eqD_int, hjd, hjd', sh, sh2, a1, eRow, shares_ints, a2, hz, k1, cl, gW, k2, lo, ij, es, -List.map_set]
theorem cclear_loop (k w c d : Nat) (head : List Int) (hc : c < w) (hw : w ≤ 9) (hhl : head.length = w) (hfh : Fit head) (x4 x6 : Option D) :
    ∀ (m n : Nat) (rs : List FR), n + m = rs.length → Loose rs → (∀ x ∈ (rowsOf rs).drop n, x.length = w ∧ Fit x ∧ Fit (clearW x head c)) → ∀ (x5 x8 x9 : Option D),
    ∃ (rs' : List FR) (y5 y8 y9 : Option D), forL (bindT (.name 5)) (exSs (G (k + 2)) p_l_canon_l2) (rngL n m) [some (.lst .own (rs.map eFR)), some (.int (w : Int)), some (.int (d : Int)), some (.int (c : Int)), x4, x5, x6, some (eRow .shr head), x8, x9, none, none] =
      some (.nx [some (.lst .own (rs'.map eFR)), some (.int (w : Int)), some (.int (d : Int)), some (.int (c : Int)), x4, y5, x6, some (eRow .shr head), y8, y9, none, none]) ∧ Loose rs' ∧ rs'.length = rs.length ∧ ∀ (i : Nat) (x : List Int), (rowsOf rs)[i]? = some x → (rowsOf rs')[i]? = some (if n ≤ i ∧ i ≠ d then clrX c head x else x)
  | 0, n, rs, h, hL, _, x5, x8, x9 => by
    refine ⟨rs, x5, x8, x9, rfl, hL, rfl, fun i x hx => ?_⟩
    have : i < rs.length := by
      have := (List.getElem?_eq_some_iff.mp hx).1
      simpa [rowsOf] using this
    rw [if_neg (by omega)]; exact hx
  | m + 1, n, rs, h, hL, hx, x5, x8, x9 => by
    have hn : n < (rowsOf rs).length := by simp [rowsOf]; omega
    obtain ⟨x, hxn⟩ : ∃ x, (rowsOf rs)[n]? = some x := ⟨_, List.getElem?_eq_getElem hn⟩
    have ed : (rowsOf rs).drop n = x :: (rowsOf rs).drop (n + 1) := by
      rw [List.drop_eq_getElem_cons hn, (List.getElem?_eq_some_iff.mp hxn).2]
    obtain ⟨q1, q2, q3⟩ := hx x (by rw [ed]; simp)
    obtain ⟨p, y5, y8, y9, hp1, hp2, st⟩ := cclear_step k rs hL w c n d head x hxn hc hw q1 hhl q2 hfh q3 x4 x5 x6 x8 x9
    have hro : rowsOf (rs.set n p) = (rowsOf rs).set n p.2 := rowsOf_set _ _ _
    obtain ⟨rs', y5', y8', y9', ih, i1, i2, i3⟩ := cclear_loop k w c d head hc hw hhl hfh x4 x6 m (n + 1) (rs.set n p) (by rw [List.length_set]; omega) (hL.set hp1) (fun y hy => by
      rw [hro, List.drop_set_of_lt (by omega)] at hy
      exact hx y (by rw [ed]; simp [hy])) y5 y8 y9
    refine ⟨rs', y5', y8', y9', ?_, i1, by rw [i2, List.length_set], fun i y hy => ?_⟩
    · rw [rngL_succ, forL_nx st]
      exact ih
    · by_cases e : i = n
      · subst e
        rw [hxn] at hy
        cases hy
        have := i3 i p.2 (by rw [hro, List.getElem?_set_self hn])
        rw [this, if_neg (by omega), hp2]
        by_cases q : i = d
        · rw [if_pos q, if_neg (by omega)]
        · rw [if_neg q, if_pos (by omega)]
      · have := i3 i y (by rw [hro, List.getElem?_set_ne (by omega)]; exact hy)
        rw [this]
        by_cases q : n + 1 ≤ i ∧ i ≠ d
        · rw [if_pos q, if_pos (by omega)]
        · rw [if_neg q, if_neg (by omega)]
theorem canon_loop (k w : Nat) (hw : w ≤ 9) {N : Nat} (hN : N < 2 ^ 13530) : ∀ (m c : Nat) (done rest : List (List Int)) (rs : List FR), c + m = w → rs.length ≤ 1000 → Loose rs → rowsOf rs = done ++ rest → (∀ x ∈ rowsOf rs, x.length = w) → CanOk N (List.range' c m) done rest → ∀ x3 x4 x5 x7 x8 x9 : Option D,
    ∃ (rs' : List FR) (rest' : List (List Int)) (y3 y4 y5 y7 y8 y9 : Option D), Loose rs' ∧ rs'.length = rs.length ∧ rowsOf rs' = canR (List.range' c m) done rest ++ rest' ∧ forL (bindT (.name 3)) (exSs (G (k + 3)) p_l_canon_l1) (rngL c m) [some (.lst .own (rs.map eFR)), some (.int (w : Int)), some (.int (done.length : Int)), x3, x4, x5, none, x7, x8, x9, none, none] =
      some (.nx [some (.lst .own (rs'.map eFR)), some (.int (w : Int)), some (.int ((canR (List.range' c m) done rest).length : Int)), y3, y4, y5, none, y7, y8, y9, none, none])
  | 0, c, done, rest, rs, _, _, hL, hr, _, _, x3, x4, x5, x7, x8, x9 => ⟨rs, rest, x3, x4, x5, x7, x8, x9, hL, rfl, hr, rfl⟩
  | m + 1, c, done, rest, rs, hm, hz, hL, hr, hl, hB, x3, x4, x5, x7, x8, x9 => by
    have hc : c < w := by omega
    have er : List.range' c (m + 1) = c :: List.range' (c + 1) m := rfl
    rw [er] at hB ⊢
    have hlen : rs.length = done.length + rest.length := by
      have := congrArg List.length hr
      simpa [rowsOf] using this
    have hdrop : (rowsOf rs).drop done.length = rest := by rw [hr]; simp
    obtain ⟨y5, ef⟩ := cfind_loop (k + 3) rs hL c w hc hl (some (.int (w : Int))) (some (.int (done.length : Int))) none x7 x8 x9 none none (rs.length - done.length) done.length (-1) x5 (by omega)
    rw [hdrop] at ef
    have g2 := rng2O_nat done.length rs.length (by omega) (by omega)
    cases hf : findP c rest with
    | none =>
      have hB' : CanOk N (List.range' (c + 1) m) done rest := by
        unfold CanOk at hB; rw [hf] at hB; exact hB
      have hR : canR (c :: List.range' (c + 1) m) done rest = canR (List.range' (c + 1) m) done rest := by
        conv => lhs; unfold canR
        rw [hf]
      rw [hf] at ef
      simp only at ef
      obtain ⟨rs', rest', y3, y4, y5', y7, y8, y9, i1, i2, i3, ih⟩ := canon_loop k w hw hN m (c + 1) done rest rs (by omega) hz hL hr hl hB' (some (.int (c : Int))) (some (.int (-1))) y5 x7 x8 x9
      refine ⟨rs', rest', y3, y4, y5', y7, y8, y9, i1, i2, by rw [hR]; exact i3, ?_⟩
      have st : (bindT (.name 3) (.int (c : Int)) [some (.lst .own (rs.map eFR)), some (.int (w : Int)), some (.int (done.length : Int)), x3, x4, x5, none, x7, x8, x9, none, none]).bind (exSs (G (k + 3)) p_l_canon_l1) =
          some (.nx [some (.lst .own (rs.map eFR)), some (.int (w : Int)), some (.int (done.length : Int)), some (.int (c : Int)), some (.int (-1)), y5, none, x7, x8, x9, none, none]) := by
        simp at ef
        simp [p_l_canon_l1, g2, ef]
      rw [rngL_succ, forL_nx st, hR]
      exact ih
    | some i =>
      obtain ⟨hd, hi, hcz⟩ := find_some hf
      have eg : rest[i]?.getD [] = hd := by rw [hi]; rfl
      have hB' : (∀ r ∈ rest, Bd N (vec r)) ∧ (∀ b ∈ done, Bd N (vec b)) ∧ (∀ r ∈ done ++ swapP rest i, Bd N (vec (clearW r (prim hd) c))) ∧ piv (prim hd) = c ∧ CanOk N (List.range' (c + 1) m) (done.map (clrB (prim hd)) ++ [prim hd]) ((swapP rest i).map fun r => if vec r c = 0 then r else clearR r (prim hd) c) := by
        unfold CanOk at hB; rw [hf] at hB; simp only [eg] at hB; exact hB
      have hR : canR (c :: List.range' (c + 1) m) done rest = canR (List.range' (c + 1) m) (done.map (clrB (prim hd)) ++ [prim hd]) ((swapP rest i).map fun r => if vec r c = 0 then r else clearR r (prim hd) c) := by
        conv => lhs; unfold canR
        rw [hf]
        simp only [eg]
      rw [hf] at ef
      simp only at ef
      obtain ⟨b1, b2, b3, b4, b5⟩ := hB'
      have hil := (List.getElem?_eq_some_iff.mp hi).1
      have hm0 : hd ∈ rest := List.mem_of_getElem? hi
      have sm := swap_mem hi
      have hhd : hd.length = w := hl hd (by rw [hr]; simp [hm0])
      have hhl : (prim hd).length = w := by rw [prim_len, hhd]
      have hfd : Fit hd := bd_fit (b1 hd hm0) hN
      have hfh : Fit (prim hd) := fit_prim hfd
      have lo := l_lowest_ok (k + 1) .shr hd hfd (by omega)
      obtain ⟨rn, hrn⟩ : ∃ rn, (rowsOf rs)[done.length]? = some rn := ⟨_, List.getElem?_eq_getElem (by simp [rowsOf]; omega)⟩
      obtain ⟨q, hq, hq2⟩ : ∃ q, rs[done.length]? = some q ∧ q.2 = rn := by
        rw [rowsOf, List.getElem?_map] at hrn
        obtain ⟨q, e, e2⟩ := mpd hrn
        exact ⟨q, e, e2⟩
      have hqs : share (eFR q) = eRow .shr rn := by rw [eFR, share_row, hL q (List.mem_of_getElem? hq), hq2]
      have hiR : (rowsOf rs)[done.length + i]? = some hd := by rw [hr, List.getElem?_append_right (by omega)]; simpa using hi
      have hL3 : Loose (((rs.set done.length (.shr, rn)).set (done.length + i) (.shr, rn)).set done.length (.shr, prim hd)) := ((hL.set rfl).set rfl).set rfl
      have l3 : (((rs.set done.length (.shr, rn)).set (done.length + i) (.shr, rn)).set done.length (.shr, prim hd)).length = rs.length := by simp
      have r3 : rowsOf (((rs.set done.length (.shr, rn)).set (done.length + i) (.shr, rn)).set done.length (.shr, prim hd)) = done ++ prim hd :: swapP rest i := by
        simp only [rowsOf_set]
        have hlR : (rowsOf rs).length = rs.length := by simp [rowsOf]
        rw [List.set_eq_take_append_cons_drop, if_pos (by simp [hlR]; omega)]
        have e1 : (((rowsOf rs).set done.length rn).set (done.length + i) rn).take done.length = done := by
          rw [List.take_set_of_le (by omega), List.take_set_of_le (by omega), hr]; simp
        have e2 : (((rowsOf rs).set done.length rn).set (done.length + i) rn).drop (done.length + 1) = swapP rest i := by
          have := swap_drop (rowsOf rs) done.length i rn hrn
          rw [hdrop] at this
          rw [← this]
          apply List.ext_getElem?
          intro j
          simp only [List.getElem?_drop, List.getElem?_set, List.length_set]
          repeat' split
          all_goals first | rfl | omega
        rw [e1, e2]
      have u1 := eFR_set rs done.length .shr rn
      have u2 := eFR_set (rs.set done.length (.shr, rn)) (done.length + i) .shr rn
      have u3 := eFR_set ((rs.set done.length (.shr, rn)).set (done.length + i) (.shr, rn)) done.length .shr (prim hd)
      generalize hrs3 : ((rs.set done.length (.shr, rn)).set (done.length + i) (.shr, rn)).set done.length (.shr, prim hd) = rs3 at *
      have zz : Fit (clearW (prim hd) (prim hd) c) := fun x hx => by
        obtain ⟨j, rfl⟩ := mem_vec hx
        rw [clearW_at rfl]
        have : vec (prim hd) j * vec (prim hd) c - vec (prim hd) j * vec (prim hd) c = 0 := by omega
        rw [this]; decide
      obtain ⟨rs', z5, z8, z9, el, L', l', ro'⟩ := cclear_loop (k + 1) w c done.length (prim hd) hc hw hhl hfh none none rs3.length 0 rs3 (by omega) hL3 (fun x hx => by
        rw [List.drop_zero, r3] at hx
        rcases List.mem_append.mp hx with hx | hx
        · exact ⟨hl x (by rw [hr]; simp [hx]), bd_fit (b2 x hx) hN, bd_fit (b3 x (by simp [hx])) hN⟩
        · rcases List.mem_cons.mp hx with rfl | hx
          · exact ⟨hhl, hfh, zz⟩
          · have hxr := (sm x).mp (by simp [hx])
            exact ⟨hl x (by rw [hr]; simp [hxr]), bd_fit (b1 x hxr) hN, bd_fit (b3 x (by simp [hx])) hN⟩) y5 x8 x9
      have hro : rowsOf rs' = (done.map (clrB (prim hd)) ++ [prim hd]) ++ (swapP rest i).map fun r => if vec r c = 0 then r else clearR r (prim hd) c := by
        have hle : (rowsOf rs').length = rs.length := by simp [rowsOf, l', l3]
        have hb : ∀ b, clrB (prim hd) b = clrX c (prim hd) b := fun b => by unfold clrB clrX; rw [b4]
        apply List.ext_getElem?
        intro j
        by_cases hj : j < rs.length
        · obtain ⟨x, hx⟩ : ∃ x, (rowsOf rs3)[j]? = some x := ⟨_, List.getElem?_eq_getElem (by simp [rowsOf]; omega)⟩
          rw [ro' j x hx]
          rw [r3] at hx
          by_cases h1 : j < done.length
          · rw [List.getElem?_append_left h1] at hx
            rw [if_pos ⟨by omega, by omega⟩, List.append_assoc, List.getElem?_append_left (by simpa using h1), List.getElem?_map, hx]
            simp [hb]
          · rw [List.getElem?_append_right (by omega)] at hx
            rw [List.append_assoc, List.getElem?_append_right (by simp; omega)]
            simp only [List.length_map]
            by_cases h2 : j = done.length
            · subst h2
              simp at hx
              rw [if_neg (by simp)]
              simp [hx]
            · obtain ⟨t, ht⟩ : ∃ t, j - done.length = t + 1 := ⟨j - done.length - 1, by omega⟩
              rw [ht] at hx ⊢
              simp only [List.getElem?_cons_succ] at hx
              rw [if_pos ⟨by omega, h2⟩]
              simp only [List.singleton_append, List.getElem?_cons_succ, List.getElem?_map, hx]
              rfl
        · rw [List.getElem?_eq_none (by omega), List.getElem?_eq_none]
          have : (swapP rest i).length = rest.length - 1 := swap_len
          simp [this]; omega
      obtain ⟨rs'', rest', y3, y4, y5', y7, y8, y9, i1, i2, i3, ih⟩ := canon_loop k w hw hN m (c + 1) (done.map (clrB (prim hd)) ++ [prim hd]) ((swapP rest i).map fun r => if vec r c = 0 then r else clearR r (prim hd) c) rs' (by omega) (by omega) L' hro (fun x hx => by
        obtain ⟨j, hj⟩ := List.getElem?_of_mem hx
        have hj' : j < rs3.length := by
          have := (List.getElem?_eq_some_iff.mp hj).1
          simp [rowsOf] at this; omega
        obtain ⟨y, hy⟩ : ∃ y, (rowsOf rs3)[j]? = some y := ⟨_, List.getElem?_eq_getElem (by simpa [rowsOf] using hj')⟩
        have hyl : y.length = w := by
          have hym := List.mem_of_getElem? hy
          rw [r3] at hym
          rcases List.mem_append.mp hym with h | h
          · exact hl y (by rw [hr]; simp [h])
          · rcases List.mem_cons.mp h with rfl | h
            · exact hhl
            · exact hl y (by rw [hr]; simp [(sm y).mp (by simp [h])])
        rw [ro' j y hy] at hj
        have : x = if 0 ≤ j ∧ j ≠ done.length then clrX c (prim hd) y else y := (Option.some.inj hj).symm
        rw [this]
        split
        · unfold clrX
          split
          · exact hyl
          · rw [clear_len (by omega)]; exact hyl
        · exact hyl) b5 (some (.int (c : Int))) none z5 (some (eRow .shr (prim hd))) z8 z9
      refine ⟨rs'', rest', y3, y4, y5', y7, y8, y9, i1, by omega, by rw [hR]; exact i3, ?_⟩
      have ld : (done.map (clrB (prim hd)) ++ [prim hd]).length = done.length + 1 := by simp
      rw [ld] at ih
      have i1' : L2.ixN rs.length ((done.length : Int) + (i : Int)) = some (done.length + i) := by
        have := ixN_ok rs.length (done.length + i) (by omega)
        rwa [Int.natCast_add] at this
      have i2' : L2.ixN rs.length (done.length : Int) = some done.length := ixN_ok rs.length done.length (by omega)
      have sh := hL.shares
      rw [show rs.map (·.2) = rowsOf rs from rfl] at sh
      have sh2 : shares ((rowsOf rs).map (eRow .shr)) = (rowsOf rs).map (eRow .shr) := shares_rows .shr _
      have ai := atI_rows (rowsOf rs) (done.length + i) hd hiR
      rw [Int.natCast_add] at ai
      have cl : closedL (eI (prim hd)) = true := by rw [closedL_all]; simp [eI]
      have gR := rngO_nat (rs3.length : Int) rs3.length rfl (by omega)
      have st : (bindT (.name 3) (.int (c : Int)) [some (.lst .own (rs.map eFR)), some (.int (w : Int)), some (.int (done.length : Int)), x3, x4, x5, none, x7, x8, x9, none, none]).bind (exSs (G (k + 3)) p_l_canon_l1) =
          some (.nx [some (.lst .own (rs'.map eFR)), some (.int (w : Int)), some (.int ((done.length + 1 : Nat) : Int)), some (.int (c : Int)), none, z5, none, some (eRow .shr (prim hd)), z8, z9, none, none]) := by
        simp at ef el
        have pos : (0 : Int) ≤ (done.length : Int) + (i : Int) := by omega
        simp only [eRow] at *
        simp [p_l_canon_l1, g2, ef, pos, sh, sh2, ai, shares_ints, lo, cl, i2', hq, hqs, u1, i1', u2, u3, gR, el, -List.map_set]
      rw [rngL_succ, forL_nx st, hR]
      exact ih
end K03

namespace K03
open FL LA
/-! U11: the law's canonical basis whole; the program's checks of spaces; joined. -/
theorem l_canon_ok (k : Nat) {w B : Nat} (hw : w ≤ 9) (f : Fl) (rows : List (List Int)) (hB : 1 ≤ B) (hl : ∀ r ∈ rows, r.length = w) (hb : ∀ r ∈ rows, Bd B (vec r)) (hz : rows.length ≤ 1000) (hF : CB w B < 2 ^ 13530) :
    run T (k + 4) i_l_canon [.lst f (rows.map (eRow f)), .int (w : Int)] = some (.lst .own ((redR rows).map (eRow .shr)), [none, none]) := by
  rw [r_l_canon, runFn_eq rfl]
  have sh1 : shares (rows.map (eRow f)) = rows.map (eRow f.sh) := shares_rows f rows
  have sh2 : shares (rows.map (eRow f.sh)) = rows.map (eRow f.sh) := by rw [shares_rows, Fl.sh_sh]
  have key := compL_mapT (bind := bindT (.name 6)) (cond := evC (G (k + 3)) .no) (elt := evE (G (k + 3)) p_l_canon_c6) (vs := [6]) (ρ := [some (.lst f.sh (rows.map (eRow f.sh))), some (.int (w : Int)), none, none, none, none, none, none, none, none, none, none]) (eRow f.sh) (eRow .own) rows (acc := []) (fun r hr => by
    refine ⟨[some (.lst f.sh (rows.map (eRow f.sh))), some (.int (w : Int)), none, none, none, none, some (eRow f.sh r), none, none, none, none, none], ?_, by simp⟩
    simp [p_l_canon_c6, eRow, shares_ints]) (by simp; omega)
  rw [List.nil_append] at key
  obtain ⟨q1, q2⟩ := canon_ok hB hl hb
  have ro : rowsOf (rows.map fun r => ((.own : Fl), r)) = rows := by simp [rowsOf, Function.comp_def]
  have em : (rows.map fun r => ((.own : Fl), r)).map eFR = rows.map (eRow .own) := by rw [List.map_map]; rfl
  obtain ⟨rs', rest', y3, y4, y5, y7, y8, y9, L', l', r', e⟩ := canon_loop k w hw hF w 0 [] rows (rows.map fun r => ((.own : Fl), r)) (by omega) (by simpa using hz) (fun p hp => by
    obtain ⟨r, _, rfl⟩ := List.mem_map.mp hp; rfl) (by rw [ro]; rfl) (by rw [ro]; exact hl) q1 none none none none none none
  rw [q2, em] at e
  rw [q2] at r'
  have cl : closedL (rows.map (eRow .own)) = true := by
    rw [closedL_all]
    simp only [List.all_map, List.all_eq_true]
    intro x _
    simp [eRow, closedL_all, eI]
  have gW := rngO_nat (w : Int) w rfl (by omega)
  have sl := slc_to .own (rs'.map eFR) (redR rows).length
  rw [L'.shares, show rs'.map (·.2) = rowsOf rs' from rfl, r', ← List.map_take, List.take_left'  rfl] at sl
  simp at e
  simp [f_l_canon, b_l_canon, sh1, sh2, key, cl, gW, e, sl]
/-- as data: the basis, shared -/
theorem is_vector_ok (k : Nat) (xs : List Int) (n : Int) (hn : n = xs.length) : run T (k + 2) i_is_vector [eRow .shr xs, .int n] = some (.bl true, [none, none]) := is_vector_row k .shr xs n hn
theorem is_space_ok (k : Nat) {w : Nat} (bs : List (List Int)) (h : Can w bs) (hz : w ≤ 9) : run T (k + 3) i_is_space [eRows .shr bs, .int (w : Int)] = some (.bl true, [none, none]) := by
  have shs : shares (bs.map (eRow .shr)) = bs.map (eRow .shr) := shares_rows .shr bs
  have hlen := asc_card h
  obtain ⟨⟨l, x3, x4⟩, e, hI⟩ := forL_ix (bind := bindT (.name 3)) (body := exSs (G (k + 2)) p_is_space_l3) (eRow .shr) (fun s : Int × Option D × Option D => [some (eRows .shr bs), some (.int (w : Int)), some (.int s.1), s.2.1, s.2.2, none]) bs (fun j s => ∀ b ∈ bs.drop j, s.1 < piv b) (fun j b s hb hI => by
    obtain ⟨l, x3, x4⟩ := s
    have hm := List.mem_of_getElem? hb
    have hj := (List.getElem?_eq_some_iff.mp hb).1
    have ed : bs.drop j = b :: bs.drop (j + 1) := by rw [List.drop_eq_getElem_cons hj, (List.getElem?_eq_some_iff.mp hb).2]
    have hn := h.nice b hm
    have v := is_vector_ok k b (w : Int) (by rw [h.len b hm])
    have p1 := pivot_ok (k + 1) .shr b
    rw [pivI_in hn.lt] at p1
    have g1 : gcdL b = 1 := prim_gcd.mp hn.pr
    have c1 := common_divisor_ok (k + 1) .shr b
    rw [g1] at c1
    have a1 := at_vec b (piv b) hn.lt
    have t1 : ¬ ((piv b : Int) ≤ l) := by have := hI b (by rw [ed]; simp); omega
    have t2 : ¬ (vec b (piv b) < 0) := by have := hn.pos; omega
    refine ⟨((piv b : Nat), some (eRow .shr b), none), .inl ?_, fun b' hb' => ?_⟩
    · simp only [eRow] at *
      simp [p_is_space_l3, shares_ints, v, p1, t1, a1, t2, c1, eqD_int]
    · have asc := h.ech.asc
      rw [List.pairwise_map] at asc
      have et : bs = bs.take j ++ b :: bs.drop (j + 1) := by rw [← ed]; exact (List.take_append_drop j bs).symm
      rw [et, List.pairwise_append] at asc
      have := (List.pairwise_cons.mp asc.2.1).1 b' hb'
      simp only
      omega) (-1, none, none) (fun b hb => by simp only; omega)
  obtain ⟨⟨x3', x4'⟩, e2, _⟩ := forL_st (bind := bindT (.name 3)) (body := exSs (G (k + 2)) p_is_space_l1) (eRow .shr) (fun s : Option D × Option D => [some (eRows .shr bs), some (.int (w : Int)), some (.int l), s.1, s.2, none]) (fun l _ => ∀ b ∈ l, b ∈ bs) (fun b l' s hI => by
    obtain ⟨y3, y4⟩ := s
    have hb := hI b (by simp)
    have hn := h.nice b hb
    have p1 := pivot_ok (k + 1) .shr b
    rw [pivI_in hn.lt] at p1
    have key := compL_filt (bind := bindT (.name 5)) (cond := evC (G (k + 2)) (.yes (.cmp .ne (.idx (.var 5) (.var 4)) (.cst (.int 0))))) (elt := evE (G (k + 2)) p_is_space_c2) (vs := [5]) (ρ := [some (eRows .shr bs), some (.int (w : Int)), some (.int l), none, some (.int (piv b : Nat)), none]) (eRow .shr) (eRow .shr) (fun r => decide (vec r (piv b) ≠ 0)) bs (acc := []) (fun r hr => by
      have a1 := at_vec r (piv b) (by rw [h.len r hr, ← h.len b hb]; exact (h.nice b hb).lt)
      refine ⟨[some (eRows .shr bs), some (.int (w : Int)), some (.int l), none, some (.int (piv b : Nat)), some (eRow .shr r)], [some (eRows .shr bs), some (.int (w : Int)), some (.int l), none, some (.int (piv b : Nat)), some (eRow .shr r)], [some (eRows .shr bs), some (.int (w : Int)), some (.int l), none, some (.int (piv b : Nat)), some (eRow .shr r)], by simp, ?_, by simp, fun _ => ⟨by simp [p_is_space_c2], by simp⟩⟩
      simp only [eRow] at *
      by_cases q : vec r (piv b) = 0 <;> simp [shares_ints, a1, eqD_int, q]) (by simp; omega)
    rw [List.nil_append] at key
    have c1 := cnt_col h hb
    refine ⟨(none, some (.int (piv b : Nat))), .inl ?_, fun q hq => hI q (by simp [hq])⟩
    generalize hM : bs.filter (fun r => decide (vec r (piv b) ≠ 0)) = M at *
    simp only [eRows, eRow] at *
    try simp at key
    simp [p_is_space_l1, shares_ints, p1, shs, key, eqD_int, c1]) bs (x3, x4) (fun b hb => hb)
  rw [r_is_space, runFn_eq rfl]
  simp only [eRows] at *
  try simp at e
  try simp at e2
  simp [f_is_space, b_is_space, shs, e, e2]
/-- the width of a space, 0 for the least one -/
def wid (w : Nat) (bs : List (List Int)) : Int := if bs = [] then 0 else (w : Int)
theorem width_of_ok (k : Nat) {w : Nat} (bs : List (List Int)) (h : Can w bs) (h1 : 1 ≤ w) (hz : w ≤ 9) : run T (k + 4) i_width_of [eRows .shr bs] = some (.int (wid w bs), [none]) := by
  have shs : shares (bs.map (eRow .shr)) = bs.map (eRow .shr) := shares_rows .shr bs
  rw [r_width_of, runFn_eq rfl]
  cases bs with
  | nil => simp [f_width_of, b_width_of, eRows, shares, eqD_int, wid]
  | cons b bs =>
    have e1 := is_width_ok k w h1 hz
    have e2 := is_space_ok k (b :: bs) h hz
    have hb := h.len b (by simp)
    generalize hB : b :: bs = bb at *
    have hne : ¬ (bb.length = 0) := by rw [← hB]; simp
    have ai : L2.atI (bb.map (eRow .shr)) 0 = some (eRow .shr b) := by
      have := atI_rows bb 0 b (by rw [← hB]; rfl)
      simpa using this
    have hw : wid w bb = (w : Int) := by rw [wid, if_neg (by rw [← hB]; simp)]
    simp only [eRows, eRow] at *
    simp [f_width_of, b_width_of, shs, eqD_int, hne, ai, hb, e1, e2, hw]
theorem ext_len (bs : List (List Int)) (row : List Int) : (extR bs row).length ≤ bs.length + 1 := by
  unfold extR
  simp only
  split
  · omega
  · rw [ins_len]; omega
theorem red_len (rows : List (List Int)) : (redR rows).length ≤ rows.length := by
  have : ∀ (rows bs : List (List Int)), (rows.foldl extR bs).length ≤ bs.length + rows.length := by
    intro rows
    induction rows with
    | nil => intro bs; simp
    | cons r rows ih =>
      intro bs
      have h1 := ih (extR bs r)
      have h2 := ext_len bs r
      simp only [List.foldl_cons, List.length_cons]
      omega
  have := this rows []
  simpa [redR] using this
/-- the bound by the number of the rows -/
theorem red_bd_n {w B n : Nat} (hB : 1 ≤ B) {rows : List (List Int)} (hl : ∀ r ∈ rows, r.length = w) (hb : ∀ r ∈ rows, Bd B (vec r)) (hn : rows.length ≤ n) : ∀ b ∈ redR rows, Bd (fact n * B ^ n) (vec b) := by
  obtain ⟨D, q⟩ := can_cram (red_can hl) (R := (· ∈ rows.map vec)) (B := B) (fun v hv => by
    obtain ⟨x, hx, rfl⟩ := List.mem_map.mp hv
    exact hb x hx) (red_span hl)
  have := red_len rows
  exact (q.mono (minor_mono hB (by omega))).bd
/-- the bound by other rows with the same span -/
theorem red_bd_sp {w B : Nat} (hB : 1 ≤ B) {rows orig : List (List Int)} (hl : ∀ r ∈ rows, r.length = w) (hb : ∀ r ∈ orig, Bd B (vec r)) (s : ∀ u, Sr rows u ↔ Sr orig u) : ∀ b ∈ redR rows, Bd (MB w B) (vec b) := by
  obtain ⟨D, q⟩ := can_MB (red_can hl) (R := (· ∈ orig.map vec)) hB (fun v hv => by
    obtain ⟨x, hx, rfl⟩ := List.mem_map.mp hv
    exact hb x hx) (fun u => by rw [red_span hl, s])
  exact q.bd
theorem fpow {n b e : Nat} (hn : n ≤ 9) (he : 19 + b * n ≤ e) : fact n * (2 ^ b) ^ n ≤ 2 ^ e := by
  have : fact n * (2 ^ b) ^ n ≤ 2 ^ (19 + b * n) := by
    rw [Nat.pow_add, Nat.pow_mul]
    exact Nat.mul_le_mul_right _ (fact_pow hn)
  exact Nat.le_trans this (Nat.pow_le_pow_right (by omega) he)
theorem mpow {w b e : Nat} (hw : w ≤ 9) (he : 19 + b * 8 ≤ e) : MB w (2 ^ b) ≤ 2 ^ e := by
  refine Nat.le_trans (MB_pow hw) (Nat.pow_le_pow_right (by omega) ?_)
  have : b * (w - 1) ≤ b * 8 := Nat.mul_le_mul_left _ (by omega)
  omega
theorem wide_b {w b : Nat} (hw : w ≤ 9) (hb : b ≤ 790) : Wide w (2 ^ b) := by
  refine wide_of (b := b) hw (Nat.pow_pos (by omega)) (Nat.le_refl _) ?_
  have : b * (w - 1) ≤ b * 8 := Nat.mul_le_mul_left _ (by omega)
  rw [Nat.mul_assoc]; omega
theorem cb_b {w b : Nat} (hw : w ≤ 9) (hb : b ≤ 740) : CB w (2 ^ b) < 2 ^ 13530 := by
  refine Nat.lt_of_le_of_lt (CB_pow hw) (Nat.pow_lt_pow_right (by omega) ?_)
  have : b * (w - 1) ≤ b * 8 := Nat.mul_le_mul_left _ (by omega)
  omega
theorem rankfit_b {w b : Nat} (hw : w ≤ 9) (hb : b ≤ 1100) : RankFit (fact w * (2 ^ b) ^ w) (fact (w - 1) * (2 ^ b) ^ (w - 1)) := by
  constructor
  · refine Nat.lt_of_le_of_lt (fpow hw (Nat.le_refl _)) (Nat.pow_lt_pow_right (by omega) ?_)
    have : b * w ≤ b * 9 := Nat.mul_le_mul_left _ hw
    omega
  · left
    refine Nat.lt_of_le_of_lt (fpow (by omega) (Nat.le_refl _)) (Nat.pow_lt_pow_right (by omega) ?_)
    have : b * (w - 1) ≤ b * 8 := Nat.mul_le_mul_left _ (by omega)
    omega
theorem eqD_rows (f g : Fl) (xs ys : List (List Int)) : eqD (.lst f (xs.map (eRow f))) (.lst g (ys.map (eRow g))) = some (decide (xs = ys)) := by
  rw [(eqE_lstQ f g (eqE_ints f g)).eqD (by omega) xs ys]
theorem eqD_rowsF (f g : Fl) (xs ys : List (List Int)) : eqD (.lst f (xs.map (eRow .shr))) (.lst g (ys.map (eRow .shr))) = some (decide (xs = ys)) := by
  rw [(eqE_lstQ f g (eqE_ints .shr .shr)).eqD (by omega) xs ys]
end K03

namespace K03
open FL LA
/-! U12: drawn rows; spans of joined lists; contains, in_space; dot, matrices, image. -/
theorem p2k (a : Nat) : 1 ≤ 2 ^ a := Nat.pow_pos (by omega)
/-- drawn vectors, as rows -/
theorem drawn (k : Nat) (ns : List Int) (place many w b : Nat) (h9 : w ≤ 9) (hm : many ≤ 60) (hb : 4 + 2 * many ≤ b) : ∃ rows : List (List Int), rows.length = many ∧ (∀ r ∈ rows, r.length = w) ∧ (∀ r ∈ rows, Bd (2 ^ b) (vec r)) ∧
    ∃ rs : List FR, run T (k + 3) i_l_vectors [.lst .frz (eI ns), .int (place : Int), .int (many : Int), .int (w : Int), .int 0] = some (.lst .own (rs.map eFR), [none, none, none, none, none]) ∧ shares (rs.map eFR) = rows.map (eRow .shr) := by
  obtain ⟨rs, hrl, hR, ev⟩ := vectors_ok k ns place many w 0 (2 ^ 4) (by omega) (by simp) h9 (by omega)
  refine ⟨rowsOf rs, by simp [rowsOf, hrl], fun r hr => ?_, fun r hr => ?_, rs, ev, Loose.shares (rs := rs) hR.fl⟩
  · obtain ⟨p, hp, rfl⟩ := List.mem_map.mp hr; exact hR.len p hp
  · obtain ⟨p, hp, rfl⟩ := List.mem_map.mp hr
    refine (hR.bd p hp).mono ?_
    rw [show (4 : Nat) = 2 ^ 2 from rfl, ← Nat.pow_mul, ← Nat.pow_add]
    exact Nat.pow_le_pow_right (by omega) hb
theorem app_can {w : Nat} {as bs : List (List Int)} (ha : Can w as) (hb : Can w bs) : (∀ r ∈ as ++ bs, r.length = w) := fun r hr => (List.mem_append.mp hr).elim (ha.len r) (hb.len r)
theorem red_two {w : Nat} {as : List (List Int)} (ha : Can w as) : redR (as ++ as) = as := by
  refine (red_can (app_can ha ha)).uniq ha fun u => ?_
  rw [red_span (app_can ha ha)]
  exact ⟨Sr_of fun b hb => Sr_mem (by simpa using hb), Sr_mono fun b hb => by simp [hb]⟩
theorem red_comm {w : Nat} {as bs : List (List Int)} (ha : Can w as) (hb : Can w bs) : redR (bs ++ as) = redR (as ++ bs) :=
  red_same (app_can hb ha) (app_can ha hb) fun u => ⟨Sr_mono fun b hb => by simp at hb ⊢; grind, Sr_mono fun b hb => by simp at hb ⊢; grind⟩
theorem span_app {w : Nat} {rows : List (List Int)} (hl : ∀ r ∈ rows, r.length = w) : redR (redR rows ++ rows) = redR rows := by
  have hl2 : ∀ r ∈ redR rows ++ rows, r.length = w := fun r hr => (List.mem_append.mp hr).elim (fun h => (red_can hl).len r h) (hl r)
  refine red_same hl2 hl fun u => ⟨Sr_of fun r hr => ?_, Sr_of fun r hr => Sr_mem (by simp [hr])⟩
  rcases List.mem_append.mp hr with h | h
  · exact (red_span hl _).mp (Sr_mem h)
  · exact Sr_mem h
theorem red_snoc {w : Nat} {bs : List (List Int)} (h : Can w bs) (row : List Int) : redR (bs ++ [row]) = extR bs row := by
  have : redR (bs ++ [row]) = extR (redR bs) row := by simp [redR, List.foldl_append]
  rw [this, red_self h]
theorem ext_length (bs : List (List Int)) (row : List Int) : (extR bs row).length = if inB bs row = true then bs.length else bs.length + 1 := by
  rw [inB_prim]
  unfold extR
  simp only [decide_eq_true_eq]
  split
  · rfl
  · rw [ins_len]
/-- one more row, of another size -/
theorem rem_wide {w M B : Nat} {D : Int} {bs : List (List Int)} {row : List Int} (hc : Can w bs) (hl : row.length = w) (hcr : Cram bs M D) (hM : 1 ≤ M) (hB : 1 ≤ B) (hr : Bd B (vec row)) (hN : 2 * ((w + 1) * (M * B) * M) < 2 ^ 13530) : RemFit row bs := by
  have hcard := asc_card hc
  have ok := ext_bd (N := 2 * ((w + 1) * (M * B) * M)) hc hl hcr hM hr (Nat.mul_le_mul_left _ (Nat.mul_le_mul_right _ (Nat.mul_le_mul_right _ (by omega))))
  have t1 : M ≤ 2 * ((w + 1) * (M * B) * M) := by
    have : 1 ≤ (w + 1) * (M * B) := Nat.mul_pos (by omega) (Nat.mul_pos hM hB)
    have := Nat.mul_le_mul_right M this
    omega
  have t2 : B ≤ 2 * ((w + 1) * (M * B) * M) := by
    have h2 : B ≤ M * B := Nat.le_mul_of_pos_left _ hM
    have h3 : M * B ≤ (w + 1) * (M * B) := Nat.le_mul_of_pos_left _ (by omega)
    have h4 : (w + 1) * (M * B) ≤ (w + 1) * (M * B) * M := Nat.le_mul_of_pos_right _ hM
    omega
  exact rem_fit hN ok.rem (fun b hm => ⟨hc.len b hm, hc.nice b hm, bd_fit (hcr.bd b hm) (Nat.lt_of_le_of_lt t1 hN)⟩) hl (bd_fit hr (Nat.lt_of_le_of_lt t2 hN))
theorem contains_ok (k : Nat) (bs : List (List Int)) (row : List Int) (h : RemFit row bs) (hz : row.length ≤ 1000) : run T (k + 5) i_contains [eRows .shr bs, eRow .shr row] = some (.bl (inB bs row), [none, none]) := by
  have e1 := remainder_ok k row bs h hz
  have e2 := pivot_ok (k + 3) .shr (remR row bs)
  have s1 : share (eRows .shr bs) = eRows .shr bs := share_rows .shr bs
  rw [r_contains, runFn_eq rfl]
  by_cases q : piv (remR row bs) = (remR row bs).length
  · have : pivI (remR row bs) = -1 := by rw [pivI, if_neg (by omega)]
    rw [this] at e2
    have : inB bs row = true := by simp [inB, q]
    rw [this]
    simp only [eRow] at *
    simp [f_contains, b_contains, s1, shares_ints, e1, e2]
  · have hp : piv (remR row bs) < (remR row bs).length := by have := piv_le (remR row bs); omega
    rw [pivI_in hp] at e2
    have : inB bs row = false := by simp [inB, q]
    rw [this]
    simp only [eRow] at *
    simp [f_contains, b_contains, s1, shares_ints, e1, e2]
theorem in_space_ok (k : Nat) {w : Nat} (bs : List (List Int)) (row : List Int) (hc : Can w bs) (hl : row.length = w) (h1 : 1 ≤ w) (h9 : w ≤ 9) (h : RemFit row bs) : run T (k + 6) i_in_space [eRows .shr bs, eRow .shr row] = some (.bl (inB bs row), [none, none]) := by
  have e1 := width_of_ok (k + 1) bs hc h1 h9
  have e2 := is_width_ok (k + 2) w h1 h9
  have e3 := is_vector_ok (k + 3) row (w : Int) (by rw [hl])
  have e4 := contains_ok k bs row h (by omega)
  have s1 : share (eRows .shr bs) = eRows .shr bs := share_rows .shr bs
  have w0 : ¬ ((w : Int) < 0) := by omega
  rw [r_in_space, runFn_eq rfl]
  by_cases q : bs = []
  · have : wid w bs = 0 := by rw [wid, if_pos q]
    rw [this] at e1
    simp only [eRow] at *
    simp [f_in_space, b_in_space, s1, e1, shares_ints, hl, e2, e3, e4]
  · have : wid w bs = w := by rw [wid, if_neg q]
    rw [this] at e1
    simp only [eRow] at *
    simp [f_in_space, b_in_space, s1, e1, shares_ints, hl, e2, e3, e4, w0, eqD_int, h1]
def turnI (mx : List (List Int)) (v : List Int) : List Int := mx.map fun r => dotI r v
end K03

namespace K03
open FL LA
def BIG : Int := ((10 : Int) ^ 55) ^ 10
theorem pow_BIG (Γ : FL.Ctx) (ρ : Env) : evE Γ (.bin .pow (.bin .pow (.cst (.int 10)) (.cst (.int 55))) (.cst (.int 10))) ρ = some (.int BIG, ρ) := by
  have h1 : ((10 : Int) ^ (55 : Int).toNat).natAbs.log2 < 1000 := by decide +kernel
  simp only [e_bin, e_cst, evCst, Option.bind_some, b_pow]
  rw [if_pos ⟨by decide, by decide, .inl (by decide)⟩]
  simp only [Option.map_some, Option.bind_some, b_pow]
  rw [if_pos ⟨by decide, by decide, .inr ⟨h1, by decide⟩⟩]
  rfl
theorem BIG_pos : 0 < BIG := by decide +kernel
theorem BIG_le : 9 * BIG + 9 + 1000000000 ≤ ((2 ^ 1831 : Nat) : Int) := by decide +kernel
theorem big_ok (k : Nat) (p : Pool) (w : Nat) (x0 x4 x5 x6 x7 x8 x9 x10 x11 x12 x13 x14 x15 x16 x17 x18 x19 : Option D) : ∃ (big : Int) (p' : Pool), ((big = 0) ∨ (big = BIG ∧ w ≤ 3)) ∧
    evE (G (k + 1)) (.idx (.lst (.cons (.cst (.int 0)) (.cons (.bin .pow (.bin .pow (.cst (.int 10)) (.cst (.int 55))) (.cst (.int 10))) .nil))) (.blt .int (.cons (.and (.cons (.cmp .eq (.call i_l_draw (.cons (.ref 1) (.cons (.val (.cst (.int 4))) .nil))) (.cst (.int 1))) (.cons (.cmp .le (.var 2) (.cst (.int 3))) .nil))) .nil))) [x0, some (eP p), some (.int (w : Int)), none, x4, x5, x6, x7, x8, x9, x10, x11, x12, x13, x14, x15, x16, x17, x18, x19] = some (.int big, [x0, some (eP p'), some (.int (w : Int)), none, x4, x5, x6, x7, x8, x9, x10, x11, x12, x13, x14, x15, x16, x17, x18, x19]) := by
  obtain ⟨v, p', e, h0, h1⟩ := draw_ok k p 4 (by omega) (by omega)
  by_cases c : v = 1 ∧ w ≤ 3
  · obtain ⟨rfl, hw⟩ := c
    have hw' : (w : Int) ≤ 3 := by omega
    exact ⟨BIG, p', .inr ⟨rfl, hw⟩, by simp [↓pow_BIG, e, eqD_int, hw']⟩
  · refine ⟨0, p', .inl rfl, ?_⟩
    by_cases hv : v = 1
    · subst hv
      have hw : ¬ ((w : Int) ≤ 3) := by
        intro q; exact c ⟨rfl, by omega⟩
      simp [↓pow_BIG, e, eqD_int, hw]
    · simp [↓pow_BIG, e, eqD_int, hv]
theorem eqD_row (f g : Fl) (xs ys : List Int) : eqD (.lst f (eI xs)) (.lst g (eI ys)) = some (decide (xs = ys)) := (eqE_ints f g).eqD (by omega) xs ys
/-- the environment behind the drawing -/
def rE (p1 : Pool) (w : Nat) (A : List (List Int)) (q : Pool) (ch bent at_ step : Int) (f : Fl) (v : List Int) (x11 x17 : Option D) : Env :=
  [none, some (eP p1), some (.int (w : Int)), none, some (eRows .shr A), some (eP q), some (.int ch), some (.int bent), some (.int at_), some (.int step), some (eRow f v), x11, none, none, none, none, none, x17, none, none]
theorem loop_ok (n w β : Nat) (p1 : Pool) (A : List (List Int)) (h9 : w ≤ 9) (hl : ∀ r ∈ A, r.length = w) (hA : A.length ≤ 9) (hb : ∀ r ∈ A, Bd (2 ^ β) (vec r)) (q : Pool) (ch bent at_ step : Int) :
    ∃ (q' : Pool) (v : List Int) (x11 x17 : Option D), v.length = w ∧ Bd (2 ^ (β + 5)) (vec v) ∧ forL (bindT (.name 11)) (exSs (G (n + 7)) p_law_l4) (A.map (eRow .shr)) (rE p1 w A q ch bent at_ step .own (List.replicate w 0) none none) = some (.nx (rE p1 w A q' ch bent at_ step .own v x11 x17)) := by
  have gW := rngO_nat (w : Int) w rfl (by omega)
  obtain ⟨⟨q', v, x11, x17⟩, e, i, h1, h2, h3⟩ := forL_st (bind := bindT (.name 11)) (body := exSs (G (n + 7)) p_law_l4) (eRow .shr) (fun s : Pool × List Int × Option D × Option D => rE p1 w A s.1 ch bent at_ step .own s.2.1 s.2.2.1 s.2.2.2) (fun l s => ∃ i : Nat, i + l.length = A.length ∧ s.2.1.length = w ∧ Bd (i * (3 * 2 ^ β)) (vec s.2.1) ∧ ∀ r ∈ l, r ∈ A) (fun r l s hI => by
    obtain ⟨q, v, x11, x17⟩ := s
    obtain ⟨i, h1, h2, h3, h4⟩ := hI
    simp only at h1 h2 h3
    have hr := h4 r (by simp)
    have hrl := hl r hr
    obtain ⟨f, q', ef, gf, lf⟩ := draw_ok (n + 6) q 7 (by omega) (by omega)
    have key := comp1 (Γ := G (n + 7)) (e := p_law_c5) (ρ := viewD (rE p1 w A q' ch bent at_ step .own v (some (eRow .shr r)) (some (.int (f - 3))))) (i := 18) rfl (fun (j : Nat) => D.int (j : Int)) (fun j => D.int (vec v j + (f - 3) * vec r j)) (List.range w) (by simp; omega) (fun j hj => ⟨some (.int j), by
      have hj' : j < w := by simpa using hj
      have a1 := at_vec v j (by omega)
      have a2 := at_vec r j (by omega)
      have m : mulOk (f - 3) (vec r j) = true := by
        have : (f - 3).natAbs < 2 ^ 64 := by omega
        simp [mulOk, this]
      simp only [rE, eRow] at *
      simp [p_law_c5, shares_ints, a1, a2, m]⟩)
    rw [← rngL_0] at key
    have e1 : (List.range w).map (fun j => D.int (vec v j + (f - 3) * vec r j)) = eI ((List.range w).map fun j => vec v j + (f - 3) * vec r j) := by simp [eI]
    rw [e1] at key
    refine ⟨(q', (List.range w).map fun j => vec v j + (f - 3) * vec r j, some (eRow .shr r), some (.int (f - 3))), .inl ?_, i + 1, by simp at h1 ⊢; omega, by simp, bd_list fun x hx => ?_, fun x hx => h4 x (by simp [hx])⟩
    · generalize hV : (List.range w).map (fun j => vec v j + (f - 3) * vec r j) = V at *
      have cl : closedL (eI V) = true := by rw [closedL_all]; simp [eI]
      have sA : share (eRows .shr A) = eRows .shr A := share_rows .shr A
      simp only [rE, eRow] at *
      simp [shares_ints, sA] at key
      simp [p_law_l4, ef, shares_ints, sA, gW, key, cl]
    · obtain ⟨j, _, rfl⟩ := List.mem_map.mp hx
      have t1 := h3 j
      have t2 := Nat.mul_le_mul (by omega : (f - 3).natAbs ≤ 3) (hb r hr j)
      rw [← Int.natAbs_mul] at t2
      have := Int.natAbs_add_le (vec v j) ((f - 3) * vec r j)
      rw [Nat.add_mul, Nat.one_mul]
      omega) A (q, List.replicate w 0, none, none) ⟨0, by simp, by simp, bd_list fun x hx => by rw [List.eq_of_mem_replicate hx]; simp, fun r hr => hr⟩
  refine ⟨q', v, x11, x17, h2, h3.1.mono ?_, e⟩
  have : i ≤ 9 := by simp at h1; omega
  have := Nat.mul_le_mul_right (3 * 2 ^ β) this
  have e : 2 ^ (β + 5) = 32 * 2 ^ β := by rw [Nat.pow_add, Nat.mul_comm]
  omega
def rF (p1 : Pool) (w : Nat) (A : List (List Int)) (q : Pool) (ch bent at_ : Int) (x9 : Option D) (v : List Int) (x11 x17 : Option D) : Env :=
  [none, some (eP p1), some (.int (w : Int)), none, some (eRows .shr A), some (eP q), some (.int ch), some (.int bent), some (.int at_), x9, some (eRow .own v), x11, none, none, none, none, none, x17, none, none]
theorem mid_ok (n w b : Nat) (p1 : Pool) (A : List (List Int)) (h9 : w ≤ 9) (q : Pool) (ch bent at_ step : Int) (v : List Int) (x11 x17 : Option D) (hv : v.length = w) (hb : Bd (2 ^ b) (vec v)) (hbb : b ≤ 9000) (ha : 0 ≤ at_) (ha2 : at_ < w) (hst : step.natAbs ≤ 2) :
    ∃ (q' : Pool) (v' : List Int) (x9 : Option D), v'.length = w ∧ Bd (2 ^ (b + 3)) (vec v') ∧ exSs (G (n + 7)) (takeS 3 (dropS 11 b_law)) (rE p1 w A q ch bent at_ step .own v x11 x17) = some (.nx (rF p1 w A q' ch bent at_ x9 v' x11 x17)) := by
  have gW := rngO_nat (w : Int) w rfl (by omega)
  have hfit : Fit v := bd_fit hb (Nat.pow_lt_pow_right (by omega) (by omega))
  have lo := l_lowest_ok (n + 5) .shr v hfit (by omega)
  have hp2 : ∀ c : Nat, 2 ^ (b + 1) = 2 * 2 ^ b := fun _ => by rw [Nat.pow_succ, Nat.mul_comm]
  have p4 : 2 ^ (b + 3) = 8 * 2 ^ b := by rw [Nat.pow_add, Nat.mul_comm]
  have b1 : 1 ≤ 2 ^ b := p2k b
  -- behind the choice
  have st1 : ∃ (q' : Pool) (v1 : List Int), v1.length = w ∧ Bd (3 * 2 ^ b) (vec v1) ∧ exSs (G (n + 7)) (takeS 2 (dropS 11 b_law)) (rE p1 w A q ch bent at_ step .own v x11 x17) = some (.nx (rE p1 w A q' ch bent at_ step .own v1 x11 x17)) := by
    by_cases c1 : ch = 1
    · subst c1
      obtain ⟨zs, ρ', e, hp, q', rfl⟩ := compL_ex (bind := bindT (.name 18)) (cond := evC (G (n + 7)) .no) (elt := evE (G (n + 7)) p_law_c3) (vs := [18]) (fun ρ => ∃ q : Pool, ρ = rE p1 w A q 1 bent at_ step .own v x11 x17) (fun (_ : Nat) (z : Int) => z.natAbs ≤ 3) (fun (i : Nat) => D.int (i : Int)) D.int (List.range w) (acc := []) (fun i hi ρ hρ => by
        obtain ⟨q, rfl⟩ := hρ
        obtain ⟨z, q', e, g, l⟩ := draw_ok (n + 6) q 7 (by omega) (by omega)
        refine ⟨z - 3, (rE p1 w A q' 1 bent at_ step .own v x11 x17).set 18 (some (.int i)), ?_, by omega, q', by simp [rE]⟩
        simp [rE, p_law_c3, e]) ⟨q, rfl⟩ (by simp; omega)
      rw [← rngL_0, List.nil_append] at e
      refine ⟨q', zs, by simpa using hp.1, bd_list fun z hz => by have := hp.all (fun _ _ h => h) z hz; omega, ?_⟩
      simp only [rE, eRow] at *
      change _ = some (eI zs, _) at e
      simp [b_law, takeS, dropS, eqD_int, gW, e]
    · by_cases c2 : ch = 2
      · subst c2
        refine ⟨q, prim v, by rw [prim_len, hv], fun j => Nat.le_trans (prim_le v j) (Nat.le_trans (hb j) (by omega)), ?_⟩
        simp only [rE, eRow] at *
        simp [b_law, takeS, dropS, eqD_int, shares_ints, lo]
      · refine ⟨q, v, hv, fun j => Nat.le_trans (hb j) (by omega), ?_⟩
        simp [rE, b_law, takeS, dropS, eqD_int, c1, c2]
  obtain ⟨q', v1, h1, h2, e⟩ := st1
  have spl : takeS 3 (dropS 11 b_law) = .cons (.ite (.cmp .eq (.var 6) (.cst (.int 1))) (.cons (.set (.name 10) (.comp p_law_c3 (.name 18) (.rng (.var 2)) .no)) .nil) .nil) (.cons (.ite (.cmp .eq (.var 6) (.cst (.int 2))) (.cons (.set (.name 10) (.call i_l_lowest (.cons (.val (.var 10)) .nil))) .nil) .nil) (.cons (.ite (.cmp .eq (.var 7) (.cst (.int 1))) (.cons (.setI 10 (.var 8) (.bin .add (.idv 10 (.var 8)) (.mov 9))) .nil) .nil) .nil)) := rfl
  have st2 : ∃ (v' : List Int) (x9 : Option D), v'.length = w ∧ Bd (2 ^ (b + 3)) (vec v') ∧ exSs (G (n + 7)) (dropS 2 (takeS 3 (dropS 11 b_law))) (rE p1 w A q' ch bent at_ step .own v1 x11 x17) = some (.nx (rF p1 w A q' ch bent at_ x9 v' x11 x17)) := by
    by_cases c3 : bent = 1
    · subst c3
      obtain ⟨j, rfl⟩ : ∃ j : Nat, at_ = j := ⟨at_.toNat, by omega⟩
      have hj : j < v1.length := by omega
      have ij := ixN_ok v1.length j hj
      have a1 : (eI v1)[j]? = some (.int (vec v1 j)) := by rw [eI_get, List.getElem?_eq_getElem hj, vec_in hj]; rfl
      have es : (eI v1).set j (.int (vec v1 j)) = eI v1 := by
        rw [eI_set]
        congr 1
        apply vec_inj (by simp)
        intro i
        by_cases q : i = j
        · subst q; rw [vec_in (by simpa using hj)]; simp
        · by_cases hi : i < v1.length
          · rw [vec_in (by simpa using hi), vec_in hi, List.getElem_set_ne (by omega)]
          · rw [vec_out (by simp; omega), vec_out (by omega)]
      refine ⟨v1.set j (vec v1 j + step), none, by simp [h1], fun i => ?_, ?_⟩
      · by_cases q : i = j
        · subst q
          rw [vec_in (by simpa using hj)]
          simp only [List.getElem_set_self]
          have := h2 i
          have := Int.natAbs_add_le (vec v1 i) step
          omega
        · by_cases hi : i < v1.length
          · rw [vec_in (by simpa using hi), List.getElem_set_ne (by omega), ← vec_in hi]
            have := h2 i; omega
          · rw [vec_out (by simp; omega)]; simp
      · have es2 := eI_set v1 j (vec v1 j + step)
        simp only [rE, rF, eRow] at *
        simp [b_law, takeS, dropS, eqD_int, ij, a1, es, es2]
    · refine ⟨v1, some (.int step), h1, fun j => Nat.le_trans (h2 j) (by omega), ?_⟩
      simp [rE, rF, b_law, takeS, dropS, eqD_int, c3]
  obtain ⟨v', x9, h3, h4, e2⟩ := st2
  refine ⟨q', v', x9, h3, h4, ?_⟩
  exact ss_two 2 (b := takeS 3 (dropS 11 b_law)) e e2
theorem eqD_bl (a b : Bool) : eqD (.bl a) (.bl b) = some (decide (a = b)) := eqE_bl.eqD (by omega) a b
theorem all_zero (xs : List Int) : (xs.map fun x => x == (0 : Int)).all id = decide (piv xs = xs.length) := by
  rw [Bool.eq_iff_iff, decide_eq_true_iff, piv_zero]
  simp only [List.all_eq_true, List.mem_map, id]
  constructor
  · intro h j
    by_cases hj : j < xs.length
    · have := h _ ⟨vec xs j, vec_mem hj, rfl⟩
      simpa using this
    · exact vec_out (by omega)
  · rintro h b ⟨x, hx, rfl⟩
    obtain ⟨j, rfl⟩ := mem_vec hx
    simp [h j]
theorem two_pow {w β γ : Nat} (h : w ≤ 9) : 2 * ((w + 1) * (2 ^ β * 2 ^ γ) * 2 ^ β) ≤ 2 ^ (1 + (4 + (β + γ) + β)) := by
  have t1 : w + 1 ≤ 2 ^ 4 := by omega
  rw [Nat.pow_add, Nat.pow_add 2 (4 + (β + γ)), Nat.pow_add 2 4, Nat.pow_add 2 β]
  exact Nat.mul_le_mul_left _ (Nat.mul_le_mul_right _ (Nat.mul_le_mul_right _ t1))
theorem law_run (n : Nat) (ns : List Int) : run T (n + 8) i_law [.lst .frz (eI ns)] = some (.bl true, [none]) := by
  obtain ⟨p0, e0⟩ := pool_ok (n + 6) .frz ns 0
  rw [show ((0 : Nat) : Int) = 0 from rfl] at e0
  obtain ⟨v1, p1, e1, g1, l1⟩ := draw_ok (n + 6) p0 9 (by omega) (by omega)
  obtain ⟨w, hw⟩ : ∃ w : Nat, (w : Int) = 1 + v1 := ⟨(1 + v1).toNat, by omega⟩
  have h0 : 1 ≤ w := by omega
  have h9 : w ≤ 9 := by omega
  obtain ⟨big, p2, hbig, eb⟩ := big_ok (n + 6) p1 w (some (.lst .frz (eI ns))) none none none none none none none none none none none none none none none none
  obtain ⟨v3, p3, e3, g3, l3⟩ := draw_ok (n + 6) p2 7 (by omega) (by omega)
  obtain ⟨m, rfl⟩ : ∃ m : Nat, v3 = m := ⟨v3.toNat, by omega⟩
  have hbb : ∃ b : Nat, ((w ≤ 3 ∧ b ≤ 1831) ∨ b ≤ 4) ∧ 0 ≤ big ∧ 9 * big + 9 + (if 0 < big then 1000000000 else 0) ≤ ((2 ^ b : Nat) : Int) := by
    rcases hbig with rfl | ⟨rfl, q⟩
    · exact ⟨4, .inr (by omega), by omega, by simp⟩
    · exact ⟨1831, .inl ⟨q, by omega⟩, by have := BIG_pos; omega, by rw [if_pos BIG_pos]; exact BIG_le⟩
  obtain ⟨b, hb, hb0, hbE⟩ := hbb
  obtain ⟨rs, hrl, hR, ev⟩ := vectors_ok (n + 4) ns 1 m w big (2 ^ b) hb0 hbE h9 (by omega)
  rw [show ((1 : Nat) : Int) = 1 from rfl] at ev
  have hp : 2 ^ b * 4 ^ m ≤ 2 ^ (b + 12) := by
    rw [Nat.pow_add]
    apply Nat.mul_le_mul_left
    rw [show (4 : Nat) = 2 ^ 2 from rfl, ← Nat.pow_mul]
    exact Nat.pow_le_pow_right (by omega) (by omega)
  have hl : ∀ r ∈ rowsOf rs, r.length = w := fun r hr => by obtain ⟨p, hp, rfl⟩ := List.mem_map.mp hr; exact hR.len p hp
  have hB : ∀ r ∈ rowsOf rs, Bd (2 ^ (b + 12)) (vec r) := fun r hr => by obtain ⟨p, hp', rfl⟩ := List.mem_map.mp hr; exact (hR.bd p hp').mono hp
  have sv : shares (rs.map eFR) = (rowsOf rs).map (eRow .shr) := Loose.shares (rs := rs) hR.fl
  have hrl2 : (rowsOf rs).length = m := by simp [rowsOf, hrl]
  generalize hO : rowsOf rs = O at *
  -- exponents
  have x1 : (b + 12) * (w - 1) ≤ 3686 := by
    rcases hb with ⟨q1, q2⟩ | q
    · have := Nat.mul_le_mul (by omega : b + 12 ≤ 1843) (by omega : w - 1 ≤ 2); omega
    · have := Nat.mul_le_mul (by omega : b + 12 ≤ 16) (by omega : w - 1 ≤ 8); omega
  have hCB : CB w (2 ^ (b + 12)) < 2 ^ 13530 := Nat.lt_of_le_of_lt (CB_pow h9) (Nat.pow_lt_pow_right (by omega) (by omega))
  have c1 := l_canon_ok (n + 3) h9 .shr O (p2k _) hl hB (by omega) hCB
  have hA := red_can hl
  obtain ⟨Dd, cr⟩ := can_MB hA (R := (· ∈ O.map vec)) (p2k (b + 12)) (fun v hv => by obtain ⟨x, hx, rfl⟩ := List.mem_map.mp hv; exact hB x hx) (red_span hl)
  obtain ⟨β, hβ⟩ : ∃ β, β = 19 + (b + 12) * (w - 1) := ⟨_, rfl⟩
  have crβ : Cram (redR O) (2 ^ β) Dd := cr.mono (by rw [hβ]; exact MB_pow h9)
  have bA := crβ.bd
  have lA := asc_card hA
  generalize hAA : redR O = A at *
  obtain ⟨q0, e4⟩ := pool_ok (n + 6) .frz ns 7
  rw [show ((7 : Nat) : Int) = 7 from rfl] at e4
  obtain ⟨ch, q1, e5, g5, l5⟩ := draw_ok (n + 6) q0 4 (by omega) (by omega)
  obtain ⟨bent, q2, e6, g6, l6⟩ := draw_ok (n + 6) q1 2 (by omega) (by omega)
  obtain ⟨at_, q3, e7, g7, l7⟩ := draw_ok (n + 6) q2 w (by omega) (by omega)
  obtain ⟨st, q4, e8, g8, l8⟩ := draw_ok (n + 6) q3 5 (by omega) (by omega)
  obtain ⟨q5, v, x11, x17, hv1, hv2, el⟩ := loop_ok n w β p3 A h9 hA.len (by omega) bA q4 ch bent at_ (st - 2)
  obtain ⟨q6, v', x9, hv3, hv4, em⟩ := mid_ok n w (β + 5) p3 A h9 q5 ch bent at_ (st - 2) v x11 x17 hv1 hv2 (by omega) g7 (by omega) (by omega)
  have hw' : 1 + v1 = (w : Int) := hw.symm
  have fz : Fl.frz.sh = Fl.frz := rfl
  have mu := mulL_ok .own [D.int 0] w (by simp) (by simp; omega) (by omega)
  have mu2 : (List.replicate w (shares [D.int 0])).flatten = eI (List.replicate w 0) := by
    simp [eI]
  rw [mu2] at mu
  have sA : shares (A.map (eRow .shr)) = A.map (eRow .shr) := shares_rows .shr _
  have start : exSs (G (n + 7)) (takeS 10 b_law) ([some (.lst .frz (eI ns))] ++ List.replicate 19 none) = some (.nx (rE p3 w A q4 ch bent at_ (st - 2) .own (List.replicate w 0) none none)) := by
    simp only [rE, eRows, eRow] at *
    simp [b_law, takeS, fz, shares_ints, e0, e1, hw', ↓eb, e3, ev, sv, c1, sA, e4, e5, e6, e7, e8, mu, b_mulT]
  have lv : v'.length = w := hv3
  have hvB : Bd (2 ^ (β + 8)) (vec v') := hv4
  have rf : RemFit v' A := rem_wide hA hv3 crβ (p2k β) (p2k (β + 8)) hvB (by
    have := two_pow (w := w) (β := β) (γ := β + 8) h9
    exact Nat.lt_of_le_of_lt this (Nat.pow_lt_pow_right (by omega) (by omega)))
  have rf0 : RemFit v' [] := bd_fit hvB (Nat.pow_lt_pow_right (by omega) (by omega))
  have k1 := in_space_ok (n + 1) A v' hA hv3 h0 h9 rf
  have k2 := in_space_ok (n + 1) [] v' (Can.nil w) hv3 h0 h9 rf0
  have hAv : ∀ r ∈ A ++ [v'], r.length = w := fun r hr => (List.mem_append.mp hr).elim (hA.len r) (fun h => by rw [List.mem_singleton.mp h]; exact hv3)
  have k3 := l_rank_ok (w := w) (B := 2 ^ (β + 8)) (n + 6) h9 .shr (A ++ [v']) (p2k _) hAv (fun r hr => (List.mem_append.mp hr).elim (fun h => (bA r h).mono (Nat.pow_le_pow_right (by omega) (by omega))) (fun h => by rw [List.mem_singleton.mp h]; exact hvB)) (by simp; omega) (by
    constructor
    · refine Nat.lt_of_le_of_lt (fpow h9 (Nat.le_refl _)) (Nat.pow_lt_pow_right (by omega) ?_)
      have := Nat.mul_le_mul (by omega : β + 8 ≤ 3713) (by omega : w ≤ 8 + 1)
      by_cases q : w ≤ 3
      · have := Nat.mul_le_mul (by omega : β + 8 ≤ 3713) q; omega
      · have : b ≤ 4 := by omega
        have := Nat.mul_le_mul (by omega : b + 12 ≤ 16) (by omega : w - 1 ≤ 8)
        have := Nat.mul_le_mul (by omega : β + 8 ≤ 155) h9
        omega
    · left
      refine Nat.lt_of_le_of_lt (fpow (by omega) (Nat.le_refl _)) (Nat.pow_lt_pow_right (by omega) ?_)
      by_cases q : w ≤ 3
      · have := Nat.mul_le_mul (by omega : β + 8 ≤ 3713) (by omega : w - 1 ≤ 2); omega
      · have : b ≤ 4 := by omega
        have := Nat.mul_le_mul (by omega : b + 12 ≤ 16) (by omega : w - 1 ≤ 8)
        have := Nat.mul_le_mul (by omega : β + 8 ≤ 155) (by omega : w - 1 ≤ 8)
        omega)
  rw [red_snoc hA, ext_length] at k3
  have z0 := all_zero v'
  have i0 : inB [] v' = decide (piv v' = v'.length) := rfl
  have bo : boolsD ((v'.map fun x => x == (0 : Int)).map FL.D.bl) = some (v'.map fun x => x == (0 : Int)) := boolsD_map _
  have keyz := comp1 (Γ := G (n + 7)) (e := p_law_c1) (ρ := [none, some (eP p3), some (.int (w : Int)), none, some (eRows .shr A), some (eP q6), some (.int ch), some (.int bent), some (.int at_), x9, some (eRow .shr v'), none, some (eRows .shr A), some (eRow .shr v'), some (.bl (inB A v')), some (.bl (inB A v')), none, x17, none, none]) (i := 19) rfl FL.D.int (fun x => .bl (x == 0)) v' (by simp; omega) (fun x hx => ⟨some (.int x), by simp [p_law_c1, eqD_int]⟩)
  have ez : v'.map (fun x => FL.D.bl (x == 0)) = (v'.map fun x => x == (0 : Int)).map FL.D.bl := by simp
  rw [ez] at keyz
  change compL _ _ _ _ (eI v') _ _ = _ at keyz
  generalize hZ : (v'.map fun x => x == (0 : Int)) = Zs at *
  have cA : ∀ (Γ : Ctx) (ρ : Env), ρ[11]? = some none → compL (bindT (.name 11)) (evC Γ .no) (evE Γ (.blt .list (.cons (.var 11) .nil))) [11] (A.map (eRow .shr)) ρ [] = some (A.map (eRow .own), ρ) := fun Γ ρ h => comp_copy Γ ρ 11 .shr A h (by simp; omega)
  have oA : shares (A.map (eRow .own)) = A.map (eRow .shr) := shares_rows .own _
  have cl : closedL (eI v') = true := by rw [closedL_all]; simp [eI]
  have eqF := eqD_rowsF
  have z1 : A.length + 1 ≤ 16777216 := by omega
  have fin : exSs (G (n + 7)) (dropS 14 b_law) (rF p3 w A q6 ch bent at_ x9 v' x11 x17) = some (.rt (.bl true) [none, some (eP p3), some (.int (w : Int)), none, some (eRows .shr A), some (eP q6), some (.int ch), some (.int bent), some (.int at_), x9, some (eRow .shr v'), none, some (eRows .shr A), some (eRow .shr v'), none, none, some (.bl (decide (piv v' = v'.length))), x17, none, none]) := by
    by_cases q : inB A v' = true
    · rw [q] at k1
      rw [q, if_pos rfl] at k3
      rw [q] at keyz
      simp only [rF, eRows, eRow, List.map_append, List.map_cons, List.map_nil] at *
      simp [b_law, dropS, p_law_c2, sA, oA, cA, shares_ints, cl, k1, eqF, eqD_row, k3, z1, eqD_int, keyz, bo, z0, k2, i0, eqD_bl]
    · have q' : inB A v' = false := by simpa using q
      rw [q'] at k1
      rw [q', if_neg (by simp)] at k3
      rw [q'] at keyz
      have ne : ((A.length : Int) + 1 == (A.length : Int)) = false := by
        rw [beq_eq_false_iff_ne]; omega
      simp only [rF, eRows, eRow, List.map_append, List.map_cons, List.map_nil] at *
      simp [b_law, dropS, p_law_c2, sA, oA, cA, shares_ints, cl, k1, eqF, eqD_row, k3, z1, eqD_int, keyz, bo, z0, k2, i0, eqD_bl, ne]
  rw [r_law, runFn_eq rfl]
  have s2 : exSs (G (n + 7)) (dropS 10 b_law) (rE p3 w A q4 ch bent at_ (st - 2) .own (List.replicate w 0) none none) = some (.rt (.bl true) [none, some (eP p3), some (.int (w : Int)), none, some (eRows .shr A), some (eP q6), some (.int ch), some (.int bent), some (.int at_), x9, some (eRow .shr v'), none, some (eRows .shr A), some (eRow .shr v'), none, none, some (.bl (decide (piv v' = v'.length))), x17, none, none]) := by
    have e1 : dropS 10 b_law = .cons (.loop (.name 11) (.seq (.var 4)) p_law_l4) (dropS 11 b_law) := rfl
    have e2 : exSs (G (n + 7)) (dropS 11 b_law) (rE p3 w A q5 ch bent at_ (st - 2) .own v x11 x17) = _ := ss_two 3 (b := dropS 11 b_law) em fin
    rw [e1]
    simp only [rE] at *
    simp only [eRows] at *
    simp [sA, el, e2]
  have s3 := ss_two 10 (b := b_law) start s2
  simp only [f_law]
  simp at s3 ⊢
  rw [s3]
  simp
theorem law_true (ns : List Int) (h : ns.length ≤ 63) : ∃ r, run T 21 i_law [.lst .frz (ns.map D.int)] = some r ∧ r.1 = .bl true := ⟨_, law_run 13 ns, rfl⟩
end K03

namespace K03
open PySem PySem.Spec PyProof.Rows L2 FL
def d_is_integer : He.DefD := ⟨((Str.ofString "is_integer"), none), (Str.ofString "is_integer"), (Str.ofString "is_integer"), defArgs s_is_integer, defBody s_is_integer, defScope s_is_integer, [], []⟩
def d_is_index : He.DefD := ⟨((Str.ofString "is_index"), none), (Str.ofString "is_index"), (Str.ofString "is_index"), defArgs s_is_index, defBody s_is_index, defScope s_is_index, [], []⟩
def d_is_vector : He.DefD := ⟨((Str.ofString "is_vector"), none), (Str.ofString "is_vector"), (Str.ofString "is_vector"), defArgs s_is_vector, defBody s_is_vector, defScope s_is_vector, [], []⟩
def d_common_divisor : He.DefD := ⟨((Str.ofString "common_divisor"), none), (Str.ofString "common_divisor"), (Str.ofString "common_divisor"), defArgs s_common_divisor, defBody s_common_divisor, defScope s_common_divisor, [], []⟩
def d_pivot : He.DefD := ⟨((Str.ofString "pivot"), none), (Str.ofString "pivot"), (Str.ofString "pivot"), defArgs s_pivot, defBody s_pivot, defScope s_pivot, [], []⟩
def d_primitive : He.DefD := ⟨((Str.ofString "primitive"), none), (Str.ofString "primitive"), (Str.ofString "primitive"), defArgs s_primitive, defBody s_primitive, defScope s_primitive, [], []⟩
def d_cleared : He.DefD := ⟨((Str.ofString "cleared"), none), (Str.ofString "cleared"), (Str.ofString "cleared"), defArgs s_cleared, defBody s_cleared, defScope s_cleared, [], []⟩
def d_remainder : He.DefD := ⟨((Str.ofString "remainder"), none), (Str.ofString "remainder"), (Str.ofString "remainder"), defArgs s_remainder, defBody s_remainder, defScope s_remainder, [], []⟩
def d_contains : He.DefD := ⟨((Str.ofString "contains"), none), (Str.ofString "contains"), (Str.ofString "contains"), defArgs s_contains, defBody s_contains, defScope s_contains, [], []⟩
def d_is_space : He.DefD := ⟨((Str.ofString "is_space"), none), (Str.ofString "is_space"), (Str.ofString "is_space"), defArgs s_is_space, defBody s_is_space, defScope s_is_space, [], []⟩
def d_is_width : He.DefD := ⟨((Str.ofString "is_width"), none), (Str.ofString "is_width"), (Str.ofString "is_width"), defArgs s_is_width, defBody s_is_width, defScope s_is_width, [], []⟩
def d_width_of : He.DefD := ⟨((Str.ofString "width_of"), none), (Str.ofString "width_of"), (Str.ofString "width_of"), defArgs s_width_of, defBody s_width_of, defScope s_width_of, [], []⟩
def d_in_space : He.DefD := ⟨((Str.ofString "in_space"), none), (Str.ofString "in_space"), (Str.ofString "in_space"), defArgs s_in_space, defBody s_in_space, defScope s_in_space, [], []⟩
def d_l_pool : He.DefD := ⟨((Str.ofString "_law_pool"), none), (Str.ofString "_law_pool"), (Str.ofString "_law_pool"), defArgs s_l_pool, defBody s_l_pool, defScope s_l_pool, [], []⟩
def d_l_draw : He.DefD := ⟨((Str.ofString "_law_draw"), none), (Str.ofString "_law_draw"), (Str.ofString "_law_draw"), defArgs s_l_draw, defBody s_l_draw, defScope s_l_draw, [], []⟩
def d_l_divisor : He.DefD := ⟨((Str.ofString "_law_divisor"), none), (Str.ofString "_law_divisor"), (Str.ofString "_law_divisor"), defArgs s_l_divisor, defBody s_l_divisor, defScope s_l_divisor, [], []⟩
def d_l_lowest : He.DefD := ⟨((Str.ofString "_law_lowest"), none), (Str.ofString "_law_lowest"), (Str.ofString "_law_lowest"), defArgs s_l_lowest, defBody s_l_lowest, defScope s_l_lowest, [], []⟩
def d_l_canon : He.DefD := ⟨((Str.ofString "_law_canon"), none), (Str.ofString "_law_canon"), (Str.ofString "_law_canon"), defArgs s_l_canon, defBody s_l_canon, defScope s_l_canon, [], []⟩
def d_l_rank : He.DefD := ⟨((Str.ofString "_law_rank"), none), (Str.ofString "_law_rank"), (Str.ofString "_law_rank"), defArgs s_l_rank, defBody s_l_rank, defScope s_l_rank, [], []⟩
def d_l_entry : He.DefD := ⟨((Str.ofString "_law_entry"), none), (Str.ofString "_law_entry"), (Str.ofString "_law_entry"), defArgs s_l_entry, defBody s_l_entry, defScope s_l_entry, [], []⟩
def d_l_vectors : He.DefD := ⟨((Str.ofString "_law_vectors"), none), (Str.ofString "_law_vectors"), (Str.ofString "_law_vectors"), defArgs s_l_vectors, defBody s_l_vectors, defScope s_l_vectors, [], []⟩
def d_law : He.DefD := ⟨((Str.ofString "law"), none), (Str.ofString "law"), (Str.ofString "law"), defArgs s_law, defBody s_law, defScope s_law, [], []⟩
def fnL : List He.DefD := [d_is_integer, d_is_index, d_is_vector, d_common_divisor, d_pivot, d_primitive, d_cleared, d_remainder, d_contains, d_is_space, d_is_width, d_width_of, d_in_space, d_l_pool, d_l_draw, d_l_divisor, d_l_lowest, d_l_canon, d_l_rank, d_l_entry, d_l_vectors, d_law]
def faL : List He.Fa := faOf T
abbrev R : PySem.W.OpenRow := PySem.W.OpenLaw.row PySem.Challenge.rw_latecomers_k03_vector_in_a_space
abbrev hk : PySem.W.Hook := He.hookX 4 faL fnL [] [] (xAll T)
def ob (s : PySem.W.SharedT) : He.AlX := He.obsX 4 faL fnL [] [] (xAll T) (HandSHeadRun.getT s)
theorem ob_eq (s : PySem.W.SharedT) : ob s = hk.obs s.abs := He.obsX_eq (HandSHeadRun.getT_eq s)
def loose0 : List Str := [(Str.ofString "LateError"), (Str.ofString "NoVector"), (Str.ofString "NoSpace"), (Str.ofString "is_integer"), (Str.ofString "is_index"), (Str.ofString "is_vector"), (Str.ofString "common_divisor"), (Str.ofString "pivot"), (Str.ofString "primitive"), (Str.ofString "cleared"), (Str.ofString "remainder"), (Str.ofString "contains"), (Str.ofString "is_space"), (Str.ofString "is_width"), (Str.ofString "width_of"), (Str.ofString "in_space"), (Str.ofString "_law_pool"), (Str.ofString "_law_draw"), (Str.ofString "_law_divisor"), (Str.ofString "_law_lowest"), (Str.ofString "_law_canon"), (Str.ofString "_law_rank"), (Str.ofString "_law_entry"), (Str.ofString "_law_vectors")]
def looseL : List Str := loose0
theorem runs (w : World) : HandSHeadRun.RunEq R (PySem.W.view R.prog [28]) hk ob 20000 looseL w := by
  intro os
  kernel_rfl
theorem msT : msChk T = true := by decide +kernel
theorem ocT : ocChk T = true := by decide +kernel
theorem ff_is_integer {K : PySem.W.Frag} (c : He.SaysD faL fnL K) : FnFact T K f_is_integer := by
  obtain ⟨fd, F⟩ := c.def_ 0 (d := d_is_integer) rfl
  exact ⟨_, _, _, _, _, fd, F, FunD.bindsN (ps := f_is_integer.ps) F (fun _ _ _ _ _ _ us hl => match us, hl with | [_], _ => rfl), ck_is_integer⟩
theorem ff_is_index {K : PySem.W.Frag} (c : He.SaysD faL fnL K) : FnFact T K f_is_index := by
  obtain ⟨fd, F⟩ := c.def_ 1 (d := d_is_index) rfl
  exact ⟨_, _, _, _, _, fd, F, FunD.bindsN (ps := f_is_index.ps) F (fun _ _ _ _ _ _ us hl => match us, hl with | [_, _], _ => rfl), ck_is_index⟩
theorem ff_is_vector {K : PySem.W.Frag} (c : He.SaysD faL fnL K) : FnFact T K f_is_vector := by
  obtain ⟨fd, F⟩ := c.def_ 2 (d := d_is_vector) rfl
  exact ⟨_, _, _, _, _, fd, F, FunD.bindsN (ps := f_is_vector.ps) F (fun _ _ _ _ _ _ us hl => match us, hl with | [_, _], _ => rfl), ck_is_vector⟩
theorem ff_common_divisor {K : PySem.W.Frag} (c : He.SaysD faL fnL K) : FnFact T K f_common_divisor := by
  obtain ⟨fd, F⟩ := c.def_ 3 (d := d_common_divisor) rfl
  exact ⟨_, _, _, _, _, fd, F, FunD.bindsN (ps := f_common_divisor.ps) F (fun _ _ _ _ _ _ us hl => match us, hl with | [_], _ => rfl), ck_common_divisor⟩
theorem ff_pivot {K : PySem.W.Frag} (c : He.SaysD faL fnL K) : FnFact T K f_pivot := by
  obtain ⟨fd, F⟩ := c.def_ 4 (d := d_pivot) rfl
  exact ⟨_, _, _, _, _, fd, F, FunD.bindsN (ps := f_pivot.ps) F (fun _ _ _ _ _ _ us hl => match us, hl with | [_], _ => rfl), ck_pivot⟩
theorem ff_primitive {K : PySem.W.Frag} (c : He.SaysD faL fnL K) : FnFact T K f_primitive := by
  obtain ⟨fd, F⟩ := c.def_ 5 (d := d_primitive) rfl
  exact ⟨_, _, _, _, _, fd, F, FunD.bindsN (ps := f_primitive.ps) F (fun _ _ _ _ _ _ us hl => match us, hl with | [_], _ => rfl), ck_primitive⟩
theorem ff_cleared {K : PySem.W.Frag} (c : He.SaysD faL fnL K) : FnFact T K f_cleared := by
  obtain ⟨fd, F⟩ := c.def_ 6 (d := d_cleared) rfl
  exact ⟨_, _, _, _, _, fd, F, FunD.bindsN (ps := f_cleared.ps) F (fun _ _ _ _ _ _ us hl => match us, hl with | [_, _, _], _ => rfl), ck_cleared⟩
theorem ff_remainder {K : PySem.W.Frag} (c : He.SaysD faL fnL K) : FnFact T K f_remainder := by
  obtain ⟨fd, F⟩ := c.def_ 7 (d := d_remainder) rfl
  exact ⟨_, _, _, _, _, fd, F, FunD.bindsN (ps := f_remainder.ps) F (fun _ _ _ _ _ _ us hl => match us, hl with | [_, _], _ => rfl), ck_remainder⟩
theorem ff_contains {K : PySem.W.Frag} (c : He.SaysD faL fnL K) : FnFact T K f_contains := by
  obtain ⟨fd, F⟩ := c.def_ 8 (d := d_contains) rfl
  exact ⟨_, _, _, _, _, fd, F, FunD.bindsN (ps := f_contains.ps) F (fun _ _ _ _ _ _ us hl => match us, hl with | [_, _], _ => rfl), ck_contains⟩
theorem ff_is_space {K : PySem.W.Frag} (c : He.SaysD faL fnL K) : FnFact T K f_is_space := by
  obtain ⟨fd, F⟩ := c.def_ 9 (d := d_is_space) rfl
  exact ⟨_, _, _, _, _, fd, F, FunD.bindsN (ps := f_is_space.ps) F (fun _ _ _ _ _ _ us hl => match us, hl with | [_, _], _ => rfl), ck_is_space⟩
theorem ff_is_width {K : PySem.W.Frag} (c : He.SaysD faL fnL K) : FnFact T K f_is_width := by
  obtain ⟨fd, F⟩ := c.def_ 10 (d := d_is_width) rfl
  exact ⟨_, _, _, _, _, fd, F, FunD.bindsN (ps := f_is_width.ps) F (fun _ _ _ _ _ _ us hl => match us, hl with | [_], _ => rfl), ck_is_width⟩
theorem ff_width_of {K : PySem.W.Frag} (c : He.SaysD faL fnL K) : FnFact T K f_width_of := by
  obtain ⟨fd, F⟩ := c.def_ 11 (d := d_width_of) rfl
  exact ⟨_, _, _, _, _, fd, F, FunD.bindsN (ps := f_width_of.ps) F (fun _ _ _ _ _ _ us hl => match us, hl with | [_], _ => rfl), ck_width_of⟩
theorem ff_in_space {K : PySem.W.Frag} (c : He.SaysD faL fnL K) : FnFact T K f_in_space := by
  obtain ⟨fd, F⟩ := c.def_ 12 (d := d_in_space) rfl
  exact ⟨_, _, _, _, _, fd, F, FunD.bindsN (ps := f_in_space.ps) F (fun _ _ _ _ _ _ us hl => match us, hl with | [_, _], _ => rfl), ck_in_space⟩
theorem ff_l_pool {K : PySem.W.Frag} (c : He.SaysD faL fnL K) : FnFact T K f_l_pool := by
  obtain ⟨fd, F⟩ := c.def_ 13 (d := d_l_pool) rfl
  exact ⟨_, _, _, _, _, fd, F, FunD.bindsN (ps := f_l_pool.ps) F (fun _ _ _ _ _ _ us hl => match us, hl with | [_, _], _ => rfl), ck_l_pool⟩
theorem ff_l_draw {K : PySem.W.Frag} (c : He.SaysD faL fnL K) : FnFact T K f_l_draw := by
  obtain ⟨fd, F⟩ := c.def_ 14 (d := d_l_draw) rfl
  exact ⟨_, _, _, _, _, fd, F, FunD.bindsN (ps := f_l_draw.ps) F (fun _ _ _ _ _ _ us hl => match us, hl with | [_, _], _ => rfl), ck_l_draw⟩
theorem ff_l_divisor {K : PySem.W.Frag} (c : He.SaysD faL fnL K) : FnFact T K f_l_divisor := by
  obtain ⟨fd, F⟩ := c.def_ 15 (d := d_l_divisor) rfl
  exact ⟨_, _, _, _, _, fd, F, FunD.bindsN (ps := f_l_divisor.ps) F (fun _ _ _ _ _ _ us hl => match us, hl with | [_], _ => rfl), ck_l_divisor⟩
theorem ff_l_lowest {K : PySem.W.Frag} (c : He.SaysD faL fnL K) : FnFact T K f_l_lowest := by
  obtain ⟨fd, F⟩ := c.def_ 16 (d := d_l_lowest) rfl
  exact ⟨_, _, _, _, _, fd, F, FunD.bindsN (ps := f_l_lowest.ps) F (fun _ _ _ _ _ _ us hl => match us, hl with | [_], _ => rfl), ck_l_lowest⟩
theorem ff_l_canon {K : PySem.W.Frag} (c : He.SaysD faL fnL K) : FnFact T K f_l_canon := by
  obtain ⟨fd, F⟩ := c.def_ 17 (d := d_l_canon) rfl
  exact ⟨_, _, _, _, _, fd, F, FunD.bindsN (ps := f_l_canon.ps) F (fun _ _ _ _ _ _ us hl => match us, hl with | [_, _], _ => rfl), ck_l_canon⟩
theorem ff_l_rank {K : PySem.W.Frag} (c : He.SaysD faL fnL K) : FnFact T K f_l_rank := by
  obtain ⟨fd, F⟩ := c.def_ 18 (d := d_l_rank) rfl
  exact ⟨_, _, _, _, _, fd, F, FunD.bindsN (ps := f_l_rank.ps) F (fun _ _ _ _ _ _ us hl => match us, hl with | [_], _ => rfl), ck_l_rank⟩
theorem ff_l_entry {K : PySem.W.Frag} (c : He.SaysD faL fnL K) : FnFact T K f_l_entry := by
  obtain ⟨fd, F⟩ := c.def_ 19 (d := d_l_entry) rfl
  exact ⟨_, _, _, _, _, fd, F, FunD.bindsN (ps := f_l_entry.ps) F (fun _ _ _ _ _ _ us hl => match us, hl with | [_, _], _ => rfl), ck_l_entry⟩
theorem ff_l_vectors {K : PySem.W.Frag} (c : He.SaysD faL fnL K) : FnFact T K f_l_vectors := by
  obtain ⟨fd, F⟩ := c.def_ 20 (d := d_l_vectors) rfl
  exact ⟨_, _, _, _, _, fd, F, FunD.bindsN (ps := f_l_vectors.ps) F (fun _ _ _ _ _ _ us hl => match us, hl with | [_, _, _, _, _], _ => rfl), ck_l_vectors⟩
theorem ff_law {K : PySem.W.Frag} (c : He.SaysD faL fnL K) : FnFact T K f_law := by
  obtain ⟨fd, F⟩ := c.def_ 21 (d := d_law) rfl
  exact ⟨_, _, _, _, _, fd, F, FunD.bindsN (ps := f_law.ps) F (fun _ _ _ _ _ _ us hl => match us, hl with | [_], _ => rfl), ck_law⟩
theorem facts {K : PySem.W.Frag} {h : Heap} {mg : Str → Option Value} (X : K.In h) (G : h.Ns mainGlobals mg) (c : He.SaysD faL fnL K) (hx : xAll T K = true) : ProgOk T K mg :=
  prog_ok X G (fun f hf => He.SaysD.facts c hf) msT ocT ⟨ff_is_integer c, ff_is_index c, ff_is_vector c, ff_common_divisor c, ff_pivot c, ff_primitive c, ff_cleared c, ff_remainder c, ff_contains c, ff_is_space c, ff_is_width c, ff_width_of c, ff_in_space c, ff_l_pool c, ff_l_draw c, ff_l_divisor c, ff_l_lowest c, ff_l_canon c, ff_l_rank c, ff_l_entry c, ff_l_vectors c, ff_law c, trivial⟩ hx (FL.AllP.mem (show FL.AllP (XFact K) T.xi from trivial)) (FL.AllP.mem (show FL.AllP (IsnFact T K) T.isn from trivial))
theorem lawF {P : Program} {w : World} {K : PySem.W.Frag} {h : Heap} {mg : Str → Option Value} {f : Addr} (X : K.In h) (G : h.Ns mainGlobals mg) (hfa : mg (Str.ofString "law") = some (.ref f)) (c : He.SaysD faL fnL K) (hx : xAll T K = true) :
    ∃ fd : FuncData, (∀ (s : Shared) (v : Value), BindsTo s fd ⟨[v], []⟩ [((Str.ofString "_law_script"), v)]) ∧ ∀ base : Heap, K.In base → base.Ns mainGlobals mg → FnOk P w K mg base (L2N.CX P w) (2 * (20 + 1) + 2) f fd [(Str.ofString "_law_script")] (spOf K 1 (run T (20 + 1) i_law) (runX T (20 + 1) i_law)) := by
  obtain ⟨fd, F⟩ := c.def_ 21 (d := d_law) rfl
  have b := FunD.bindsA (ps := [(Str.ofString "_law_script")]) F fun _ _ _ _ _ _ us hl => match us, hl with | [_], _ => rfl
  have O := facts X G c hx
  have e := hfa.symm.trans (O.glo i_law f_law rfl rfl)
  cases e
  exact ⟨fd, fun s v => b s [v] rfl, fun base _ _ => law_fn O 20 (i := i_law) (fn := f_law) rfl F ck_law⟩
end K03
open PySem PySem.W PySem.Calls PyProof.Rows FL
theorem PySem.Challenge.cw_latecomers_k03_vector_in_a_space_holds : PySem.Challenge.rw_latecomers_k03_vector_in_a_space.Holds := by
  w_on; o_law
  refine HandSHeadRun.head_any (r := OpenLaw.row PySem.Challenge.rw_latecomers_k03_vector_in_a_space) (q := view (OpenLaw.row PySem.Challenge.rw_latecomers_k03_vector_in_a_space).prog [28]) (H := K03.hk) (ob := K03.ob) (M := 20000) (loose := K03.looseL) (d := HandSHeadRun.topDef (OpenLaw.row PySem.Challenge.rw_latecomers_k03_vector_in_a_space).prog 28) (kwd := []) K03.ob_eq
    (by kernel_rfl) (fun s => by kernel_rfl) K03.runs (by kernel_rfl) (by kernel_rfl) (by kernel_rfl) (by rfl) (by first | assumption | decide +kernel) (by decide +kernel) ⟨rfl, rfl, rfl, rfl, rfl, by decide +kernel⟩ ?hw ?hc
  case hw => w_witness2
  case hc =>
    refine FL.law_end (l := PySem.Challenge.rw_latecomers_k03_vector_in_a_space) (n := 63) (k := 2 * (20 + 1) + 2) (x := (Str.ofString "_law_script")) rfl (by decide) (by kernel_rfl) ⟨rfl, by decide, by decide⟩ ?F
    intro w mg fa h Y G hmg0
    obtain ⟨K, KX, cx⟩ := Y
    have c := cx.t.d
    have hmg : mg (Str.ofString "law") = some (.ref fa) := by
      have e : (HandSHeadRun.topDef (OpenLaw.row PySem.Challenge.rw_latecomers_k03_vector_in_a_space).prog 28).name = (Str.ofString "law") := by kernel_rfl
      rw [← e]
      exact hmg0
    obtain ⟨fd, hb, hF⟩ := K03.lawF (P := (PySem.Challenge.rw_latecomers_k03_vector_in_a_space).prog) (w := w) KX G hmg c cx.more
    exact ⟨K, fd, FL.spOf K 1 (FL.run K03.T (20 + 1) K03.i_law) (FL.runX K03.T (20 + 1) K03.i_law), KX, hb, fun H a ns hl _ hS => FL.law_sp hS (K03.law_true ns hl), hF⟩

