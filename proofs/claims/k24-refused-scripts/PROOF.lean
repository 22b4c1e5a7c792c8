import PyProof.Rows.All
import HandS.ForMost
import HandS.HeadHook2
import HandS.TupLe
import HandS.Wide
import HandS.TupAny
import HandS.TupMul
import HandS.IsInst
import HandS.Star
import HandS.Deep
import HandS.Zip
import HandS.NoneIn
import HandS.ExcCtx
import HandS.HotCalls
import HandS.ExcInit
import HandS.ExcField
import HandS.ExcOwn
import KE.KExcIs
import OpenK.KMeth
import HandS.Conv
import OpenK.KWalk
import HandS.HeadWalk
import HandS.Dict
import HandS.Defaults
import HandS.HeadEnd
import HandS.HeadHook4
import HandS.Head0
import HandS.Head1
import HandS.Head2
import PySem.Challenge.RW_latecomers_k24_refused_scripts
set_option Elab.async false
set_option linter.all false
set_option maxRecDepth 100000
set_option maxHeartbeats 4000000

/-! F1: pure tree data D with an own-flag, how a value bears a datum (Rep), and the state of roots (SR) with its frame rule. -/
namespace FL
open PySem PySem.Spec PyProof.Rows L2

/-- own: may be changed here; shr: shared, not changed any more; frz: the script -/
inductive Fl where
  | own | shr | frz
  deriving DecidableEq
def Fl.sh : Fl → Fl
  | .own => .shr
  | .shr => .shr
  | .frz => .frz
theorem Fl.sh_sh (f : Fl) : f.sh.sh = f.sh := by cases f <;> rfl
inductive D where
  | non | bl (b : Bool) | int (i : Int) | str (x : Str)
  | tup (xs : List D)
  | lst (o : Fl) (xs : List D)
  | obj (o : Fl) (c : Str) (ns : List Str) (xs : List D)
  | hole (v : V)
  | dic
  | any

mutual
def share : D → D
  | .tup xs => .tup (shares xs)
  | .lst f xs => .lst f.sh (shares xs)
  | .obj f c ns xs => .obj f.sh c ns (shares xs)
  | .non => .non
  | .bl b => .bl b
  | .int i => .int i
  | .str x => .str x
  | .hole v => .hole v
  | .dic => .dic
  | .any => .any
def shares : List D → List D
  | [] => []
  | d :: ds => share d :: shares ds
end
theorem shares_eq : ∀ ds, shares ds = ds.map share
  | [] => by simp [shares]
  | d :: ds => by simp [shares, shares_eq ds]
theorem shares_get (ds : List D) (i : Nat) : (shares ds)[i]? = ds[i]?.map share := by rw [shares_eq]; simp
theorem shares_len (ds : List D) : (shares ds).length = ds.length := by rw [shares_eq]; simp
mutual
theorem share_share : ∀ d, share (share d) = share d
  | .tup xs => by simp [share, shares_shares xs]
  | .lst f xs => by simp [share, shares_shares xs, Fl.sh_sh f]
  | .obj f c ns xs => by simp [share, shares_shares xs, Fl.sh_sh f]
  | .non => by simp [share]
  | .bl b => by simp [share]
  | .int i => by simp [share]
  | .str x => by simp [share]
  | .hole v => by simp [share]
  | .dic => by simp [share]
  | .any => by simp [share]
theorem shares_shares : ∀ ds, shares (shares ds) = shares ds
  | [] => by simp [shares]
  | d :: ds => by simp [shares, share_share d, shares_shares ds]
end

def Le (G H : Hp) : Prop := ∀ a o, G a = some o → H a = some o
theorem Le.refl {G : Hp} : Le G G := fun _ _ h => h
theorem Le.trans {A B C : Hp} (h : Le A B) (g : Le B C) : Le A C := fun a o e => g a o (h a o e)
def hid (F : List Addr) (H : Hp) : Hp := fun a => if a ∈ F then none else H a
theorem hid_out {F : List Addr} {H : Hp} {a : Addr} (h : a ∉ F) : hid F H a = H a := if_neg h
theorem hid_some {F : List Addr} {H : Hp} {a : Addr} {o : HO} : hid F H a = some o ↔ a ∉ F ∧ H a = some o := by
  unfold hid
  by_cases h : a ∈ F
  · simp [h]
  · simp [h]
theorem hid_le {F : List Addr} {H : Hp} : Le (hid F H) H := fun a o e => (hid_some.mp e).2
theorem hid_mono {F F' : List Addr} {H : Hp} (h : ∀ a ∈ F', a ∈ F) : Le (hid F H) (hid F' H) := fun a o e => hid_some.mpr ⟨fun z => (hid_some.mp e).1 (h a z), (hid_some.mp e).2⟩
theorem hid_congr {F F' : List Addr} {H : Hp} (h : ∀ a, a ∈ F ↔ a ∈ F') : hid F H = hid F' H := by
  funext a
  unfold hid
  by_cases k : a ∈ F
  · rw [if_pos k, if_pos ((h a).mp k)]
  · rw [if_neg k, if_neg (fun z => k ((h a).mpr z))]
theorem Rd.le {G H : Hp} {a : Addr} {u : HO} (h : Rd G a u) (g : Le G H) : Rd H a u := by
  rcases h with h | ⟨o, h⟩
  · exact .inl (g _ _ h)
  · exact .inr ⟨o, g _ _ h⟩
theorem SqL.le {K : PySem.W.Frag} {G H : Hp} {a : Addr} {xs : List V} (h : SqL K G a xs) (g : Le G H) : SqL K H a xs := by
  rcases h with h | h
  · exact .inl (Rd.le h g)
  · exact .inr h
theorem SqT.le {K : PySem.W.Frag} {G H : Hp} {a : Addr} {xs : List V} (h : SqT K G a xs) (g : Le G H) : SqT K H a xs := by
  rcases h with h | h
  · exact .inl (Rd.le h g)
  · exact .inr h

mutual
inductive Rep (K : PySem.W.Frag) (G H : Hp) : V → D → List Addr → Prop
  | non : Rep K G H .non .non []
  | bl (b : Bool) : Rep K G H (.bl b) (.bl b) []
  | int (i : Int) : Rep K G H (.int i) (.int i) []
  | str (x : Str) : Rep K G H (.str x) (.str x) []
  | hole (v : V) : Rep K G H v (.hole v) []
  | dic {a : Addr} : G a = some (.dK []) → Rep K G H (.ref a) .dic []
  | any (v : V) : Rep K G H v .any []
  | tup {a : Addr} {vs : List V} {ds : List D} {F : List Addr} : SqT K G a vs → Reps K G H vs ds F → Rep K G H (.ref a) (.tup ds) F
  | lstF {a : Addr} {vs : List V} {ds : List D} : SqL K G a vs → Reps K G H vs ds [] → Rep K G H (.ref a) (.lst .frz ds) []
  | lstS {a : Addr} {vs : List V} {ds : List D} : G a = some (.lst vs) → Reps K G H vs ds [] → Rep K G H (.ref a) (.lst .shr ds) []
  | lstO {a : Addr} {vs : List V} {ds : List D} {F : List Addr} : H a = some (.lst vs) → Reps K G H vs ds F → Rep K G H (.ref a) (.lst .own ds) (a :: F)
  | objS {a dx : Addr} {c : Str} {ns : List Str} {vs : List V} {ds : List D} : G a = some (.ins (He.ga K c) dx (ns.zip vs)) → ns.length = vs.length → Reps K G H vs ds [] → Rep K G H (.ref a) (.obj .shr c ns ds) []
  | objO {a dx : Addr} {c : Str} {ns : List Str} {vs : List V} {ds : List D} {F : List Addr} : H a = some (.ins (He.ga K c) dx (ns.zip vs)) → ns.length = vs.length → Reps K G H vs ds F → Rep K G H (.ref a) (.obj .own c ns ds) (a :: F)
inductive Reps (K : PySem.W.Frag) (G H : Hp) : List V → List D → List Addr → Prop
  | nil : Reps K G H [] [] []
  | cons {v : V} {d : D} {vs : List V} {ds : List D} {F1 F2 : List Addr} : Rep K G H v d F1 → Reps K G H vs ds F2 → Reps K G H (v :: vs) (d :: ds) (F1 ++ F2)
end

section
variable {K : PySem.W.Frag} {G H G' H' : Hp}
mutual
theorem Rep.mono : ∀ {v : V} {d : D} {F : List Addr}, Rep K G H v d F → Le G G' → (∀ a ∈ F, H' a = H a) → Rep K G' H' v d F
  | _, _, _, .non, _, _ => .non
  | _, _, _, .bl b, _, _ => .bl b
  | _, _, _, .int i, _, _ => .int i
  | _, _, _, .str x, _, _ => .str x
  | _, _, _, .hole v, _, _ => .hole v
  | _, _, _, .dic s, g, _ => .dic (g _ _ s)
  | _, _, _, .any v, _, _ => .any v
  | _, _, _, .tup s r, g, h => .tup (SqT.le s g) (Reps.mono r g h)
  | _, _, _, .lstF s r, g, h => .lstF (SqL.le s g) (Reps.mono r g h)
  | _, _, _, .lstS s r, g, h => .lstS (g _ _ s) (Reps.mono r g h)
  | _, _, _, .lstO (a := a) s r, g, h => .lstO ((h a (by simp)).trans s) (Reps.mono r g fun b hb => h b (List.mem_cons_of_mem _ hb))
  | _, _, _, .objS s l r, g, h => .objS (g _ _ s) l (Reps.mono r g h)
  | _, _, _, .objO (a := a) s l r, g, h => .objO ((h a (by simp)).trans s) l (Reps.mono r g fun b hb => h b (List.mem_cons_of_mem _ hb))
theorem Reps.mono : ∀ {vs : List V} {ds : List D} {F : List Addr}, Reps K G H vs ds F → Le G G' → (∀ a ∈ F, H' a = H a) → Reps K G' H' vs ds F
  | _, _, _, .nil, _, _ => .nil
  | _, _, _, .cons r t, g, h => .cons (Rep.mono r g fun b hb => h b (List.mem_append_left _ hb)) (Reps.mono t g fun b hb => h b (List.mem_append_right _ hb))
end
mutual
theorem Rep.dom : ∀ {v : V} {d : D} {F : List Addr}, Rep K G H v d F → ∀ a ∈ F, ∃ o, H a = some o
  | _, _, _, .non => fun _ h => by simp at h
  | _, _, _, .bl b => fun _ h => by simp at h
  | _, _, _, .int i => fun _ h => by simp at h
  | _, _, _, .str x => fun _ h => by simp at h
  | _, _, _, .hole v => fun _ h => by simp at h
  | _, _, _, .dic s => fun _ h => by simp at h
  | _, _, _, .any v => fun _ h => by simp at h
  | _, _, _, .tup s r => Reps.dom r
  | _, _, _, .lstF s r => fun _ h => by simp at h
  | _, _, _, .lstS s r => fun _ h => by simp at h
  | _, _, _, .lstO (a := a) s r => fun b h => by
    rcases List.mem_cons.mp h with e | h
    · subst e; exact ⟨_, s⟩
    · exact Reps.dom r b h
  | _, _, _, .objS s l r => fun _ h => by simp at h
  | _, _, _, .objO (a := a) s l r => fun b h => by
    rcases List.mem_cons.mp h with e | h
    · subst e; exact ⟨_, s⟩
    · exact Reps.dom r b h
theorem Reps.dom : ∀ {vs : List V} {ds : List D} {F : List Addr}, Reps K G H vs ds F → ∀ a ∈ F, ∃ o, H a = some o
  | _, _, _, .nil => fun _ h => by simp at h
  | _, _, _, .cons r t => fun b h => (List.mem_append.mp h).elim (fun z => Rep.dom r b z) fun z => Reps.dom t b z
end
mutual
theorem Rep.share : ∀ {v : V} {d : D} {F : List Addr}, Rep K G H v d F → Le G G' → (∀ a ∈ F, G' a = H a) → Rep K G' H' v (share d) []
  | _, _, _, .non, _, _ => by simp only [FL.share]; exact .non
  | _, _, _, .bl b, _, _ => by simp only [FL.share]; exact .bl b
  | _, _, _, .int i, _, _ => by simp only [FL.share]; exact .int i
  | _, _, _, .str x, _, _ => by simp only [FL.share]; exact .str x
  | _, _, _, .hole v, _, _ => by simp only [FL.share]; exact .hole v
  | _, _, _, .dic s, g, _ => by simp only [FL.share]; exact .dic (g _ _ s)
  | _, _, _, .any v, _, _ => by simp only [FL.share]; exact .any v
  | _, _, _, .tup s r, g, h => by simp only [FL.share]; exact .tup (SqT.le s g) (Reps.share r g h)
  | _, _, _, .lstF s r, g, h => by simp only [FL.share]; exact .lstF (SqL.le s g) (Reps.share r g h)
  | _, _, _, .lstS s r, g, h => by simp only [FL.share]; exact .lstS (g _ _ s) (Reps.share r g h)
  | _, _, _, .lstO (a := a) s r, g, h => by
    simp only [FL.share]
    exact .lstS ((h a (by simp)).trans s) (Reps.share r g fun b hb => h b (List.mem_cons_of_mem _ hb))
  | _, _, _, .objS s l r, g, h => by simp only [FL.share]; exact .objS (g _ _ s) l (Reps.share r g h)
  | _, _, _, .objO (a := a) s l r, g, h => by
    simp only [FL.share]
    exact .objS ((h a (by simp)).trans s) l (Reps.share r g fun b hb => h b (List.mem_cons_of_mem _ hb))
theorem Reps.share : ∀ {vs : List V} {ds : List D} {F : List Addr}, Reps K G H vs ds F → Le G G' → (∀ a ∈ F, G' a = H a) → Reps K G' H' vs (shares ds) []
  | _, _, _, .nil, _, _ => by simp only [FL.shares]; exact .nil
  | _, _, _, .cons r t, g, h => by
    simp only [FL.shares]
    exact .cons (F1 := []) (F2 := []) (Rep.share r g fun b hb => h b (List.mem_append_left _ hb)) (Reps.share t g fun b hb => h b (List.mem_append_right _ hb))
end
mutual
theorem Rep.sharedF : ∀ {v : V} {d : D} {F : List Addr}, Rep K G H v d F → share d = d → F = []
  | _, _, _, .non, _ => rfl
  | _, _, _, .bl b, _ => rfl
  | _, _, _, .int i, _ => rfl
  | _, _, _, .str x, _ => rfl
  | _, _, _, .hole v, _ => rfl
  | _, _, _, .dic s, _ => rfl
  | _, _, _, .any v, _ => rfl
  | _, _, _, .tup s r, e => Reps.sharedF r (by simpa [FL.share] using e)
  | _, _, _, .lstF s r, _ => rfl
  | _, _, _, .lstS s r, _ => rfl
  | _, _, _, .lstO s r, e => by simp [FL.share, Fl.sh] at e
  | _, _, _, .objS s l r, _ => rfl
  | _, _, _, .objO s l r, e => by simp [FL.share, Fl.sh] at e
theorem Reps.sharedF : ∀ {vs : List V} {ds : List D} {F : List Addr}, Reps K G H vs ds F → shares ds = ds → F = []
  | _, _, _, .nil, _ => rfl
  | _, _, _, .cons r t, e => by
    simp only [FL.shares, List.cons.injEq] at e
    rw [Rep.sharedF r e.1, Reps.sharedF t e.2]; rfl
end
theorem Reps.length : ∀ {vs : List V} {ds : List D} {F : List Addr}, Reps K G H vs ds F → vs.length = ds.length
  | _, _, _, .nil => rfl
  | _, _, _, .cons _ t => by simp [Reps.length t]
theorem Reps.append : ∀ {vs vs' : List V} {ds ds' : List D} {F F' : List Addr}, Reps K G H vs ds F → Reps K G H vs' ds' F' → Reps K G H (vs ++ vs') (ds ++ ds') (F ++ F')
  | _, _, _, _, _, _, .nil, s => s
  | _, _, _, _, _, _, .cons r t, s => by rw [List.append_assoc]; exact .cons r (Reps.append t s)
theorem Reps.split : ∀ {vs : List V} {ds ds' : List D} {F : List Addr}, Reps K G H vs (ds ++ ds') F → ∃ us us' F1 F2, vs = us ++ us' ∧ F = F1 ++ F2 ∧ Reps K G H us ds F1 ∧ Reps K G H us' ds' F2
  | vs, [], ds', F, h => ⟨[], vs, [], F, rfl, rfl, .nil, h⟩
  | _, d :: ds, ds', _, .cons (F1 := F1) r t => by
    obtain ⟨us, us', A, B, e1, e2, h1, h2⟩ := Reps.split (ds := ds) t
    subst e1 e2
    exact ⟨_ :: us, us', F1 ++ A, B, rfl, by rw [List.append_assoc], .cons r h1, h2⟩
end

/-! ### roots -/
abbrev Root := Option V × Option D
inductive RepO (K : PySem.W.Frag) (G H : Hp) : List Root → List Addr → Prop
  | nil : RepO K G H [] []
  | skip {v : Option V} {rs : List Root} {F : List Addr} : RepO K G H rs F → RepO K G H ((v, none) :: rs) F
  | cons {v : V} {d : D} {rs : List Root} {F1 F2 : List Addr} : Rep K G H v d F1 → RepO K G H rs F2 → RepO K G H ((some v, some d) :: rs) (F1 ++ F2)
section
variable {K : PySem.W.Frag} {G H G' H' : Hp}
theorem RepO.mono {rs : List Root} {F : List Addr} (r : RepO K G H rs F) (g : Le G G') : (∀ a ∈ F, H' a = H a) → RepO K G' H' rs F := by
  induction r with
  | nil => exact fun _ => .nil
  | skip _ ih => exact fun h => .skip (ih h)
  | cons x _ ih => exact fun h => .cons (x.mono g fun b hb => h b (List.mem_append_left _ hb)) (ih fun b hb => h b (List.mem_append_right _ hb))
theorem RepO.dom {rs : List Root} {F : List Addr} (r : RepO K G H rs F) : ∀ a ∈ F, ∃ o, H a = some o := by
  induction r with
  | nil => exact fun _ h => by simp at h
  | skip _ ih => exact ih
  | cons x _ ih => exact fun b h => (List.mem_append.mp h).elim (fun z => x.dom b z) fun z => ih b z
theorem RepO.append {rs rs' : List Root} {F F' : List Addr} (r : RepO K G H rs F) (r' : RepO K G H rs' F') : RepO K G H (rs ++ rs') (F ++ F') := by
  induction r with
  | nil => exact r'
  | skip _ ih => exact .skip ih
  | cons x _ ih => rw [List.append_assoc]; exact .cons x ih
theorem RepO.split : ∀ {rs rs' : List Root} {F : List Addr}, RepO K G H (rs ++ rs') F → ∃ F1 F2, F = F1 ++ F2 ∧ RepO K G H rs F1 ∧ RepO K G H rs' F2
  | [], rs', F, h => ⟨[], F, rfl, .nil, h⟩
  | _ :: rs, rs', _, .skip h => by
    obtain ⟨F1, F2, e, a, b⟩ := RepO.split h
    exact ⟨F1, F2, e, .skip a, b⟩
  | _ :: rs, rs', _, .cons (F1 := A) x h => by
    obtain ⟨F1, F2, e, a, b⟩ := RepO.split h
    exact ⟨A ++ F1, F2, by rw [e, List.append_assoc], .cons x a, b⟩
theorem RepO.perm {rs rs' : List Root} (p : rs.Perm rs') : ∀ {F : List Addr}, RepO K G H rs F → ∃ F', F.Perm F' ∧ RepO K G H rs' F' := by
  induction p with
  | nil => exact fun {F} h => ⟨F, .refl _, h⟩
  | cons x _ ih =>
    intro F h
    cases h with
    | skip h => obtain ⟨F', q, h'⟩ := ih h; exact ⟨F', q, .skip h'⟩
    | cons r h => obtain ⟨F', q, h'⟩ := ih h; exact ⟨_ ++ F', q.append_left _, .cons r h'⟩
  | swap x y l =>
    intro F h
    cases h with
    | skip h =>
      cases h with
      | skip h => exact ⟨_, .refl _, .skip (.skip h)⟩
      | cons r h => exact ⟨_, .refl _, .cons r (.skip h)⟩
    | cons r h =>
      cases h with
      | skip h => exact ⟨_, .refl _, .skip (.cons r h)⟩
      | cons r' h =>
        refine ⟨_, ?_, .cons r' (.cons r h)⟩
        rw [← List.append_assoc, ← List.append_assoc]
        exact List.perm_append_comm.append_right _
  | trans _ _ ih1 ih2 =>
    intro F h
    obtain ⟨F', q, h'⟩ := ih1 h
    obtain ⟨F'', q', h''⟩ := ih2 h'
    exact ⟨F'', q.trans q', h''⟩

/-- Gf: what is kept for others; N: what others own; rs: the roots -/
def SR (K : PySem.W.Frag) (Gf : Hp) (N : List Addr) (H : Hp) (rs : List Root) : Prop :=
  (∀ a ∈ N, ∃ o, Gf a = some o) ∧ ∃ F, F.Nodup ∧ RepO K (hid (F ++ N) H) H rs F ∧ Le Gf (hid F H)
theorem SR.perm {Gf : Hp} {N : List Addr} {rs rs' : List Root} (h : SR K Gf N H rs) (p : rs.Perm rs') : SR K Gf N H rs' := by
  obtain ⟨n, F, nd, r, g⟩ := h
  obtain ⟨F', q, r'⟩ := r.perm p
  have e : ∀ a, a ∈ F ↔ a ∈ F' := fun a => q.mem_iff
  refine ⟨n, F', q.nodup_iff.mp nd, ?_, ?_⟩
  · rw [hid_congr (F' := F ++ N) fun a => by simp [e a]]; exact r'
  · rw [hid_congr (F' := F) fun a => (e a).symm]; exact g
/-- THE FRAME RULE -/
theorem SR.frame {Gc : Hp} {N : List Addr} {rs rs2 : List Root} (h : SR K Gc N H (rs ++ rs2)) :
    ∃ Gf N', SR K Gf N' H rs ∧ ∀ H' rs', SR K Gf N' H' rs' → SR K Gc N H' (rs' ++ rs2) := by
  obtain ⟨n, F, nd, r, g⟩ := h
  obtain ⟨F1, F2, e, r1, r2⟩ := r.split
  subst e
  obtain ⟨nd1, nd2, dj⟩ := List.nodup_append.mp nd
  have d2 := r2.dom
  have hN : ∀ a ∈ N, ∃ o, H a = some o ∧ Gc a = some o ∧ a ∉ F1 ++ F2 := fun a ha => by
    obtain ⟨o, e⟩ := n a ha
    have z := hid_some.mp (g a o e)
    exact ⟨o, z.2, e, z.1⟩
  refine ⟨hid F1 H, F2 ++ N, ⟨fun a ha => ?_, F1, nd1, ?_, Le.refl⟩, fun H' rs' h' => ?_⟩
  · rcases List.mem_append.mp ha with ha | ha
    · obtain ⟨o, e⟩ := d2 a ha
      exact ⟨o, hid_some.mpr ⟨fun z => dj a z a ha rfl, e⟩⟩
    · obtain ⟨o, e, _, z⟩ := hN a ha
      exact ⟨o, hid_some.mpr ⟨fun q => z (List.mem_append_left _ q), e⟩⟩
  · rw [← List.append_assoc]; exact r1
  · obtain ⟨_, F', nd', r', g'⟩ := h'
    have key : ∀ a o, a ∉ F1 → H a = some o → a ∉ F' ∧ H' a = some o := fun a o ha e => hid_some.mp (g' a o (hid_some.mpr ⟨ha, e⟩))
    have k2 : ∀ a ∈ F2, a ∉ F' ∧ H' a = H a := fun a ha => by
      obtain ⟨o, e⟩ := d2 a ha
      obtain ⟨x, y⟩ := key a o (fun z => dj a z a ha rfl) e
      exact ⟨x, y.trans e.symm⟩
    refine ⟨n, F' ++ F2, List.nodup_append.mpr ⟨nd', nd2, fun a ha b hb e => (k2 a (e ▸ hb)).1 ha⟩, ?_, fun a o e => ?_⟩
    · rw [List.append_assoc]
      refine r'.append ?_
      refine r2.mono (fun a o e => ?_) fun a ha => (k2 a ha).2
      obtain ⟨x, y⟩ := hid_some.mp e
      simp only [List.mem_append, not_or] at x
      obtain ⟨z, u⟩ := key a o x.1.1 y
      exact hid_some.mpr ⟨by simp only [List.mem_append, not_or]; exact ⟨z, x.1.2, x.2⟩, u⟩
    · obtain ⟨x, y⟩ := hid_some.mp (g a o e)
      simp only [List.mem_append, not_or] at x
      obtain ⟨z, u⟩ := key a o x.1 y
      exact hid_some.mpr ⟨by simp only [List.mem_append, not_or]; exact ⟨z, x.2⟩, u⟩
end
end FL

/-! F2: the small language (E, S) and its evaluator over D. -/
namespace FL
open PySem PySem.Spec PyProof.Rows L2

abbrev SZ : Nat := 16777216
inductive BOp where | add | sub | mul | fdiv | mod | pow
  deriving DecidableEq
inductive COp where | eq | ne | lt | le | gt | ge | isN | notN | mem | nomem
  deriving DecidableEq
inductive Blt where | len | int | list | tuple | sum | abs | min2 | max2 | all | any | min1 | max1
  deriving DecidableEq
inductive Cst where | non | bl (b : Bool) | int (i : Int) | str (x : Str)
inductive Ty where | bi (n : String) | own (c : Str)
inductive Tg where | name (i : Nat) | names (is : List Nat)

inductive Ix where
  | c (n : Int) | v (i : Nat) | cv (n : Int) (i : Nat)
inductive Pl where
  | nm (i : Nat) | sub (p : Pl) (ix : Ix)
inductive MOp where | app | clr | rev | pop | popI | ext | ins
  deriving DecidableEq
mutual
inductive E where
  | cst (c : Cst)
  | var (i : Nat)
  | mov (i : Nat)
  | bin (op : BOp) (a b : E)
  | neg (a : E)
  | not (a : E)
  | and (es : Es)
  | or (es : Es)
  | cmp (op : COp) (a b : E)
  | chn (op op' : COp) (a b c : E)
  | ite (c a b : E)
  | lst (es : Es)
  | tup (es : Es)
  | idx (a b : E)
  | idv (i : Nat) (b : E)
  | slc (a : E) (lo hi : OE)
  | call (f : Nat) (as : As)
  | meth (m : Str) (o : A) (as : As)
  | make (c : Str) (f : Nat) (as : As)
  | blt (b : Blt) (es : Es)
  | isi (a : E) (t : Ty)
  | fld (a : E) (f : Str)
  | flv (i : Nat) (f : Str)
  | comp (elt : E) (t : Tg) (it : It) (cond : OE)
  | shr (a : E)
  | lnv (i : Nat)
  | bor (a : E)
  | dic0
  | gti (o b : E)
  | oeq (o b : E)
  | lrg (a : E)
  | plc (p : Pl)
  | comp2 (elt : E) (t1 : Tg) (it1 : It) (t2 : Tg) (it2 : It) (cond : OE)
inductive OE where
  | no
  | yes (e : E)
inductive Es where
  | nil
  | cons (e : E) (es : Es)
  | star (e : E) (es : Es)
inductive A where
  | val (e : E)
  | ref (i : Nat)
inductive As where
  | nil
  | cons (a : A) (as : As)
inductive It where
  | seq (e : E)
  | rng (e : E)
  | rng2 (a b : E)
  | mvs (i : Nat)
  | zip (a b : E)
  | enum (e : E)
end
/-- a statement whose call may raise -/
inductive May where
  | set (t : Tg) | ex | ret
mutual
/-- what a clause's suite reckons with: the caught exception -/
inductive SE where
  | cst (c : Cst)
  | fld (f : Str)
  | isx (c : Str)
  | tup (es : SEs)
  | and (a b : SE)
  | isint (f : Nat) (a : SE)
inductive SEs where
  | nil
  | cons (e : SE) (es : SEs)
end
inductive SS where
  | set (i : Nat) (e : SE)
  | ret (e : SE)
/-- one except clause: the class, the slot of its name, the suite -/
structure Hd where
  c : Str
  sl : Option Nat
  s : SS
mutual
inductive S where
  | set (t : Tg) (e : E)
  | setI (i : Nat) (b e : E)
  | setF (i : Nat) (f : Str) (e : E)
  | aug (i : Nat) (op : BOp) (e : E)
  | app (i : Nat) (e : E)
  | ex (e : E)
  | ite (c : E) (a b : Ss)
  | loop (t : Tg) (it : It) (b : Ss)
  | whl (c : E) (b : Ss)
  | ret (e : E)
  | retN
  | brk
  | cnt
  | pass
  | nev
  | setP (p : Pl) (ix : Ix) (e : E)
  | mutP (p : Pl) (op : MOp) (es : Es)
  | par (is : List Nat) (es : Es)
  | bor (is : List Nat) (s : S)
  | may (k : May) (e : E)
  | rse0 (c : Str)
  | rse1 (c f : Str) (e : E)
  | try_ (b : Ss) (hs : List Hd)
  | setS (i : Nat) (a b e : E)
  | swp (i j : Nat) (a b e : E)
  | loopO (t b : Nat) (body : Ss)
  | mutN (i : Nat) (op : MOp) (es : Es)
inductive Ss where
  | nil
  | cons (s : S) (ss : Ss)
  | ali (i : Nat) (p : Pl) (body rest : Ss)
  | ali2 (t i : Nat) (p : Pl) (body rest : Ss)
  | alt (a b : Ss)
end
/-- how many statements of the text a suite stands for -/
def Ss.cnt : Ss → Nat
  | .nil => 0
  | .cons _ ss => ss.cnt + 1
  | .ali _ _ b r => b.cnt + r.cnt + 1
  | .ali2 _ _ _ b r => b.cnt + r.cnt + 1
  | .alt a _ => a.cnt

/-! ### environments -/
abbrev Env := List (Option D)
def getS (ρ : Env) (i : Nat) : Option D := match ρ[i]? with
  | some (some d) => some d
  | _ => none
def putS (ρ : Env) (i : Nat) (d : D) : Option Env := if i < ρ.length then some (ρ.set i (some d)) else none
def putAll : Env → List Nat → List D → Option Env
  | ρ, [], [] => some ρ
  | ρ, i :: is, d :: ds => (putS ρ i d).bind fun ρ1 => putAll ρ1 is ds
  | _, _, _ => none
def bindT : Tg → D → Env → Option Env
  | .name i, d, ρ => putS ρ i d
  | .names is, .tup ds, ρ => if is.length = ds.length then putAll ρ is ds else none
  | .names is, .lst _ ds, ρ => if is.length = ds.length then putAll ρ is (shares ds) else none
  | .names _, _, _ => none
def Tg.slots : Tg → List Nat
  | .name i => [i]
  | .names is => is
def wipeD (ρ : Env) : List Nat → Env
  | [] => ρ
  | v :: vs => (wipeD ρ vs).set v none

/-! ### operations -/
theorem ite_cl {α : Type} {p : Prop} [inst : Decidable p] {a b : α} : @ite α p (Classical.propDecidable p) a b = if p then a else b := by
  by_cases h : p
  · rw [if_pos h, if_pos h]
  · rw [if_neg h, if_neg h]
def mulOk (a b : Int) : Bool := decide (a.natAbs < 2 ^ 64) || decide (b.natAbs < 2 ^ 64) || decide (a.natAbs.log2 + b.natAbs.log2 < 1000000)
def toP : D → Option PyData
  | .non => some .none
  | .bl b => some (.bool b)
  | .int i => some (.int i)
  | .str x => some (.str x)
  | .tup xs => (toPs xs).map .tuple
  | .lst _ xs => (toPs xs).map .list
  | .obj _ _ _ _ => none
  | .hole _ => none
  | .dic => none
  | .any => none
where toPs : List D → Option (List PyData)
  | [] => some []
  | d :: ds => (toP d).bind fun p => (toPs ds).map fun ps => p :: ps
def eqD (a b : D) : Option Bool := match toP a, toP b with
  | some x, some y => if (SeqAt.shaped x && SeqAt.shaped y) = true then some (PyData.eqv x y) else none
  | _, _ => none
noncomputable def binD : BOp → D → D → Option D
  | .add, .int a, .int b => some (.int (a + b))
  | .add, .lst f xs, .lst g ys => if f ≠ .frz ∧ g ≠ .frz ∧ xs.length + ys.length ≤ SZ then some (.lst .own (shares xs ++ shares ys)) else none
  | .add, .tup xs, .tup ys => if xs.length + ys.length ≤ SZ then some (.tup (shares xs ++ shares ys)) else none
  | .sub, .int a, .int b => some (.int (a - b))
  | .mul, .int a, .int b => @ite _ (mulOk a b = true) (Classical.propDecidable _) (some (.int (a * b))) none
  | .mul, .lst f xs, .int k => @ite _ (f ≠ .frz ∧ -(2 ^ 63) ≤ k ∧ k < 2 ^ 63 ∧ xs.length * k.toNat ≤ SZ) (Classical.propDecidable _) (some (.lst .own (List.replicate k.toNat (shares xs)).flatten)) none
  | .mul, .tup xs, .int k => @ite _ (xs ≠ [] ∧ 0 ≤ k ∧ k ≤ 1000 ∧ xs.length ≤ 1000) (Classical.propDecidable _) (some (.tup (List.replicate k.toNat (shares xs)).flatten)) none
  | .fdiv, .int a, .int b => @ite _ (0 < b ∧ (b.natAbs.log2 < 9000 ∨ a.natAbs.log2 < 13530)) (Classical.propDecidable _) (some (.int (a / b))) (@ite _ (b < 0 ∧ (b.natAbs.log2 < 9000 ∨ a.natAbs.log2 < 13530)) (Classical.propDecidable _) (some (.int (a.fdiv b))) none)
  | .mod, .int a, .int b => @ite _ (0 < b) (Classical.propDecidable _) (some (.int (a % b))) none
  | .pow, .int a, .int b => @ite _ (0 ≤ b ∧ b ≤ 1000000 ∧ (a.natAbs < 2 ^ 64 ∨ (a.natAbs.log2 < 1000 ∧ b ≤ 1000))) (Classical.propDecidable _) (some (.int (a ^ b.toNat))) none
  | _, _, _ => none
def flatD : D → Bool
  | .non => true
  | .bl _ => true
  | .int _ => true
  | .str _ => true
  | _ => false
def memD (x : D) (xs : List D) : Option Bool := match xs with
  | [] => some false
  | y :: ys => (eqD y x).bind fun b => if b = true then some true else memD x ys
/-- x in a list of data of any depth -/
def memP (x : D) (ys : List D) : Option Bool := match toP x, toP.toPs ys with
  | some p, some ds => if (SeqAt.shaped p && SeqAt.shaped (.list ds)) = true then some (ds.any fun z => PyData.eqv z p) else none
  | _, _ => none
def intsD : List D → Option (List Int)
  | [] => some []
  | .int i :: ds => (intsD ds).map (i :: ·)
  | _ :: _ => none
/-- <= of tuples of ints, as the kit says it -/
def leTI (ns ms : List Int) : Bool :=
  Ob.lexAt (fun j => decide (ns.getD j 0 = ms.getD j 0)) (fun j => decide (ns.getD j 0 ≤ ms.getD j 0)) (decide (ns.length ≤ ms.length)) 0 (min ns.length ms.length)
def cmpD : COp → D → D → Option Bool
  | .eq, a, b => eqD a b
  | .ne, a, b => (eqD a b).map (!·)
  | .lt, .int a, .int b => some (decide (a < b))
  | .le, .int a, .int b => some (decide (a ≤ b))
  | .le, .tup xs, .tup ys => (intsD xs).bind fun ns => (intsD ys).map fun ms => leTI ns ms
  | .gt, .int a, .int b => some (decide (b < a))
  | .ge, .int a, .int b => some (decide (b ≤ a))
  | .isN, .bl a, .bl b => some (decide (a = b))
  | .notN, .bl a, .bl b => some (!decide (a = b))
  | .isN, a, .non => match a with | .non => some true | .hole _ => none | .any => none | _ => some false
  | .notN, a, .non => match a with | .non => some false | .hole _ => none | .any => none | _ => some true
  | .mem, x, .lst _ ys => if flatD x = true ∧ ys.all flatD = true then memD x ys else memP x ys
  | .mem, x, .tup ys => if flatD x = true ∧ ys.all flatD = true then memD x ys else none
  | .nomem, x, .lst _ ys => if flatD x = true ∧ ys.all flatD = true then (memD x ys).map (!·) else (memP x ys).map (!·)
  | .nomem, x, .tup ys => if flatD x = true ∧ ys.all flatD = true then (memD x ys).map (!·) else none
  | _, _, _ => none
def idxD : D → D → Option D
  | .lst _ xs, .int i => (atI xs i).map share
  | .tup xs, .int i => (atI xs i).map share
  | _, _ => none
/-- x[i] of a name: the item becomes shared within it -/
def idvD : D → D → Option (D × D)
  | .lst f xs, .int i => (ixN xs.length i).bind fun j => (xs[j]?).map fun d => (share d, .lst f (xs.set j (share d)))
  | .tup xs, .int i => (ixN xs.length i).bind fun j => (xs[j]?).map fun d => (share d, .tup (xs.set j (share d)))
  | _, _ => none
def cutD (xs : List D) (lo hi : Option Int) : List D := (xs.drop (HT.sIx xs.length 0 lo)).take (HT.sIx xs.length xs.length hi - HT.sIx xs.length 0 lo)
def slcD : D → Option Int → Option Int → Option D
  | .lst _ xs, lo, hi => some (.lst .own (cutD (shares xs) lo hi))
  | _, _, _ => none
def boolsD : List D → Option (List Bool)
  | [] => some []
  | .bl b :: ds => (boolsD ds).map (b :: ·)
  | _ :: _ => none
def d1 (f : D → Option D) : List D → Option D
  | [x] => f x
  | _ => none
def d2 (f : D → D → Option D) : List D → Option D
  | [x, y] => f x y
  | _ => none
def lenD : D → Option D
  | .lst _ xs => some (.int xs.length)
  | .tup xs => some (.int xs.length)
  | _ => none
def intD : D → Option D
  | .int i => some (.int i)
  | .bl b => some (.int (if b then 1 else 0))
  | _ => none
def listD : D → Option D
  | .lst _ xs => some (.lst .own (shares xs))
  | .tup xs => some (.lst .own (shares xs))
  | _ => none
def tupleD : D → Option D
  | .lst _ xs => some (.tup (shares xs))
  | .tup xs => some (.tup (shares xs))
  | _ => none
def sumD : D → Option D
  | .lst _ xs => (intsD xs).map fun ns => .int ns.sum
  | _ => none
def absD : D → Option D
  | .int i => some (.int (if i < 0 then -i else i))
  | _ => none
def min2D : D → D → Option D
  | .int i, .int j => some (.int (if j < i then j else i))
  | _, _ => none
def max2D : D → D → Option D
  | .int i, .int j => some (.int (if j > i then j else i))
  | _, _ => none
def maxI : List Int → Int
  | [] => 0
  | [a] => a
  | a :: b :: t => max a (maxI (b :: t))
def minI : List Int → Int
  | [] => 0
  | [a] => a
  | a :: b :: t => min a (minI (b :: t))
def max1D : D → Option D
  | .lst _ xs => (intsD xs).bind fun ns => if ns = [] then none else some (.int (maxI ns))
  | _ => none
def min1D : D → Option D
  | .lst _ xs => (intsD xs).bind fun ns => if ns = [] then none else some (.int (minI ns))
  | _ => none
def allD : D → Option D
  | .lst _ xs => (boolsD xs).map fun bs => .bl (bs.all id)
  | _ => none
def anyD : D → Option D
  | .lst _ xs => (boolsD xs).map fun bs => .bl (bs.any id)
  | _ => none
def bltD : Blt → List D → Option D
  | .len => d1 lenD
  | .int => d1 intD
  | .list => d1 listD
  | .tuple => d1 tupleD
  | .sum => d1 sumD
  | .abs => d1 absD
  | .min2 => d2 min2D
  | .max2 => d2 max2D
  | .all => d1 allD
  | .any => d1 anyD
  | .min1 => d1 min1D
  | .max1 => d1 max1D
def isiD : D → Ty → Option Bool
  | .obj _ c _ _, .own c' => if c = c' then some true else none
  | .obj _ _ _ _, _ => none
  | .hole _, _ => none
  | .any, _ => none
  | _, .own _ => some false
  | .dic, .bi n => some (decide (n = "dict"))
  | .non, .bi n => some (decide (n = "NoneType"))
  | .bl _, .bi n => some (decide (n = "bool" ∨ n = "int"))
  | .int _, .bi n => some (decide (n = "int"))
  | .str _, .bi n => some (decide (n = "str"))
  | .tup _, .bi n => some (decide (n = "tuple"))
  | .lst _ _, .bi n => some (decide (n = "list"))
def look : List Str → List D → Str → Option D
  | n :: ns, d :: ds, f => if f = n then some d else look ns ds f
  | _, _, _ => none
/-- is f a field of the object's class? -/
def hasFld (cs : List (Str × List Str)) (f : Str) : D → Bool
  | .obj _ c _ _ => cs.any fun p => decide (p.1 = c) && p.2.contains f
  | _ => false
def fldD (d : D) (f : Str) : Option D := match d with
  | .obj _ _ ns ds => (look ns ds f).map share
  | _ => none
def shareAt : List Str → List D → Str → List D
  | n :: ns, d :: ds, f => if f = n then share d :: ds else d :: shareAt ns ds f
  | _, ds, _ => ds
def flvD (d : D) (f : Str) : Option (D × D) := match d with
  | .obj o c ns ds => (look ns ds f).map fun d => (share d, .obj o c ns (shareAt ns ds f))
  | _ => none
/-- a field is set: the names, the data behind -/
def putD : List Str → List D → Str → D → List Str × List D
  | n :: ns, d :: ds, f, v => if f = n then (n :: ns, v :: ds) else let r := putD ns ds f v; (n :: r.1, d :: r.2)
  | ns, ds, f, v => (ns ++ [f], ds ++ [v])
def augD : BOp → D → D → Option D
  | .add, .int a, .int b => some (.int (a + b))
  | .sub, .int a, .int b => some (.int (a - b))
  | _, _, _ => none
def isLst : D → Bool
  | .lst _ _ => true
  | _ => false
def appD : D → D → Option D
  | .lst .own xs, d => if xs.length < SZ then some (.lst .own (xs ++ [d])) else none
  | _, _ => none
/-- x[a:b] = d -/
noncomputable def slcS : D → D → D → D → Option D
  | .lst .own xs, .int a, .int b, .lst .own ys => @ite _ (0 ≤ a ∧ a ≤ b ∧ b ≤ xs.length ∧ xs.length + ys.length ≤ SZ) (Classical.propDecidable _) (some (.lst .own (xs.take a.toNat ++ ys ++ xs.drop b.toNat))) none
  | _, _, _, _ => none
def setID : D → D → D → Option D
  | .lst .own xs, .int k, d => (ixN xs.length k).map fun j => .lst .own (xs.set j d)
  | _, _, _ => none
def setFD : D → Str → D → Option D
  | .obj .own c ns ds, f, d => if ds.length < 1000 then some (.obj .own c (putD ns ds f d).1 (putD ns ds f d).2) else none
  | _, _, _ => none
def rngL (lo : Int) (n : Nat) : List D := (List.range n).map fun (k : Nat) => D.int (lo + (k : Int))
def enumL (k : Nat) : List D → List D
  | [] => []
  | d :: ds => .tup [.int (k : Int), d] :: enumL (k + 1) ds
def zipL : List D → List D → List D
  | a :: as, b :: bs => .tup [a, b] :: zipL as bs
  | _, _ => []

def setSeq : D → List D → D
  | .lst f _, ds => .lst f ds
  | .tup _, ds => .tup ds
  | .obj o c ns _, ds => .obj o c ns ds
  | d, _ => d
def itemsD : D → List D
  | .lst _ ds => ds
  | .tup ds => ds
  | .obj _ _ _ ds => ds
  | _ => []
/-- may be changed within -/
def ownC : D → Bool
  | .lst .own _ => true
  | .tup _ => true
  | _ => false
def get1 (d : D) (n : Int) : Option D := if ownC d = true then (ixN (itemsD d).length n).bind fun j => (itemsD d)[j]? else none
def put1 (d : D) (n : Int) (y : D) : Option D := if ownC d = true then (ixN (itemsD d).length n).map fun j => setSeq d ((itemsD d).set j y) else none
def Pl.base : Pl → Nat
  | .nm i => i
  | .sub p _ => p.base
def intS (ρ : Env) (i : Nat) : Option Int := match getS ρ i with
  | some (.int n) => some n
  | _ => none
def ixD (ρ : Env) : Ix → Option Int
  | .c n => some n
  | .v i => intS ρ i
  | .cv n i => (intS ρ i).map fun k => n + k
/-- the datum at a place -/
def getP (ρ : Env) : Pl → Option D
  | .nm i => getS ρ i
  | .sub p ix => (getP ρ p).bind fun x => (ixD ρ ix).bind fun n => get1 x n
/-- a place gets a datum: the name's datum behind it -/
def putP (ρ : Env) : Pl → D → Option D
  | .nm _, y => some y
  | .sub p ix, y => (getP ρ p).bind fun x => (ixD ρ ix).bind fun n => (put1 x n y).bind fun x' => putP ρ p x'
noncomputable def mopD : MOp → List D → List D → Option (List D)
  | .app, ds, [d] => if ds.length < SZ then some (ds ++ [d]) else none
  | .clr, _, [] => some []
  | .rev, ds, [] => some ds.reverse
  | .pop, ds, [] => if ds.isEmpty = true then none else some ds.dropLast
  | .popI, ds, [.int i] => @ite _ (-(2 ^ 62) ≤ i ∧ i < 2 ^ 62) (Classical.propDecidable _) ((ixN ds.length i).map fun j => ds.eraseIdx j) none
  | .ext, ds, [.lst f xs] => if f ≠ .frz ∧ ds.length + xs.length ≤ SZ then some (ds ++ shares xs) else none
  | .ins, ds, [.int i, d] => @ite _ (0 ≤ i ∧ i < 2 ^ 62 ∧ ds.length < SZ) (Classical.propDecidable _) (some (ds.take i.toNat ++ [d] ++ ds.drop i.toNat)) none
  | _, _, _ => none
def lstO : D → Option (List D)
  | .lst .own ds => some ds
  | _ => none

mutual
/-- a datum that leans on nothing that others hold -/
def closedD : D → Bool
  | .tup xs => closedL xs
  | .lst .own xs => closedL xs
  | .lst .shr _ => false
  | .lst .frz _ => false
  | .obj .own _ _ xs => closedL xs
  | .obj .shr _ _ _ => false
  | .obj .frz _ _ _ => false
  | .hole _ => false
  | .dic => false
  | .any => false
  | .non => true
  | .bl _ => true
  | .int _ => true
  | .str _ => true
def closedL : List D → Bool
  | [] => true
  | d :: ds => closedD d && closedL ds
end
def viewD (ρ : Env) : Env := ρ.map fun o => o.map share

/-! ### flows, loops -/
/-- an exception: its class, its field -/
structure Exn where
  c : Str
  a : Option (Str × D)
inductive Flow where
  | nx (ρ : Env) | rt (d : D) (ρ : Env) | bk (ρ : Env) | ct (ρ : Env) | ex (x : Exn) (ρ : Env)
def ixsD (ρ : Env) : Pl → Option (List Int)
  | .nm _ => some []
  | .sub p ix => (ixsD ρ p).bind fun ns => (ixD ρ ix).map fun n => ns ++ [n]
/-- the datum at a path -/
def getN : List Int → D → Option D
  | [], d => some d
  | n :: ns, d => (get1 d n).bind fun x => getN ns x
def putN : List Int → D → D → Option D
  | [], _, y => some y
  | n :: ns, d, y => (get1 d n).bind fun x => (putN ns x y).bind fun x' => put1 d n x'
/-- slot i's datum goes back to where it was taken from: into slot b, at the path ns, where the value v stands -/
noncomputable def giveE (i b : Nat) (ns : List Int) (v : V) (ρ : Env) : Option Env := (getS ρ i).bind fun y => (getS ρ b).bind fun d => @ite _ (getN ns d = some (.hole v)) (Classical.propDecidable _) ((putN ns d y).map fun z => (ρ.set i none).set b (some z)) none
noncomputable def giveF (i b : Nat) (ns : List Int) (v : V) : Flow → Option Flow
  | .nx ρ => (giveE i b ns v ρ).map .nx
  | .rt d ρ => match getS ρ i with
    | some _ => (giveE i b ns v ρ).map (.rt d)
    | none => some (.rt d (ρ.set b none))
  | .bk ρ => (giveE i b ns v ρ).map .bk
  | .ct ρ => (giveE i b ns v ρ).map .ct
  | .ex x ρ => (giveE i b ns v ρ).map (.ex x)
open Classical in
/-- what comes for each value -/
noncomputable def allV (g : V → Option Flow) : Option Flow := if h : ∃ r, ∀ v, g v = some r then some h.choose else none
theorem allV_of {g : V → Option Flow} {r : Flow} (h : ∀ v, g v = some r) : allV g = some r := by
  have he : ∃ r, ∀ v, g v = some r := ⟨r, h⟩
  unfold allV
  rw [dif_pos he]
  have := he.choose_spec .non
  rw [h .non] at this
  exact this.symm
theorem allV_some {g : V → Option Flow} {r : Flow} (h : allV g = some r) (v : V) : g v = some r := by
  unfold allV at h
  split at h
  · rename_i he
    rw [← h]; exact he.choose_spec v
  · cases h
/-- the two parts of a pair of which the first one is small -/
def pair2 : D → Option (D × D)
  | .tup [a, b] => if flatD a = true then some (a, b) else none
  | _ => none
def lenO (ρ : Env) (b : Nat) : Option Nat := (getS ρ b).bind fun d => (lstO d).map fun ds => ds.length
noncomputable def stepO (body : Env → Option Flow) (t b j : Nat) (ρ : Env) : Option Flow := (getS ρ b).bind fun d => (lstO d).bind fun ds => (ds[j]?).bind fun y => allV fun v => (putS (ρ.set b (some (.lst .own (ds.set j (.hole v))))) t y).bind fun ρ1 => (body ρ1).bind (giveF t b [(j : Int)] v)
/-- a loop over the own list in slot b that may change its items (the list keeps its length) -/
noncomputable def loopOL (body : Env → Option Flow) (t b n : Nat) : Nat → Nat → Env → Option Flow
  | 0, _, ρ => if lenO ρ b = some n then some (.nx ρ) else none
  | k + 1, j, ρ => if lenO ρ b = some n then (stepO body t b j ρ).bind fun fl => match fl with
    | .nx ρ2 => loopOL body t b n k (j + 1) ρ2
    | .ct ρ2 => loopOL body t b n k (j + 1) ρ2
    | .bk ρ2 => some (.nx ρ2)
    | .rt d ρ2 => some (.rt d ρ2)
    | .ex x ρ2 => some (.ex x ρ2) else none
def forL (bind : D → Env → Option Env) (body : Env → Option Flow) : List D → Env → Option Flow
  | [], ρ => some (.nx ρ)
  | d :: ds, ρ => (bind d ρ).bind fun ρ1 => (body ρ1).bind fun fl => match fl with
    | .nx ρ2 => forL bind body ds ρ2
    | .ct ρ2 => forL bind body ds ρ2
    | .bk ρ2 => some (.nx ρ2)
    | .rt d ρ2 => some (.rt d ρ2)
    | .ex x ρ2 => some (.ex x ρ2)
def compL (bind : D → Env → Option Env) (cond : Env → Option (Bool × Env)) (elt : Env → Option (D × Env)) (vs : List Nat) : List D → Env → List D → Option (List D × Env)
  | [], ρ, acc => some (acc, ρ)
  | d :: ds, ρ, acc => (bind d ρ).bind fun ρ1 => (cond ρ1).bind fun p => match p with
    | (true, ρ2) => (elt ρ2).bind fun q => if acc.length < SZ then compL bind cond elt vs ds (wipeD q.2 vs) (acc ++ [q.1]) else none
    | (false, ρ2) => compL bind cond elt vs ds (wipeD ρ2 vs) acc
def comp2L (t1 t2 : Tg) (i2 : Env → Option (List D × Env)) (ct : Env → Option (Bool × Env)) (ee : Env → Option (D × Env)) : List D → Env → List D → Option (List D × Env)
  | [], ρ, acc => some (acc, ρ)
  | d :: ds, ρ, acc => (bindT t1 d ρ).bind fun ρ1 => (i2 ρ1).bind fun q => (compL (bindT t2) ct ee t2.slots q.1 (wipeD q.2 t2.slots) acc).bind fun r => comp2L t1 t2 i2 ct ee ds (wipeD r.2 (t1.slots ++ t2.slots)) r.1
def whlN (c : Env → Option (Bool × Env)) (b : Env → Option Flow) : Nat → Env → Option Flow
  | 0, _ => none
  | n + 1, ρ => (c ρ).bind fun p => match p with
    | (false, ρ1) => some (.nx ρ1)
    | (true, ρ1) => (b ρ1).bind fun fl => match fl with
      | .nx ρ2 => whlN c b n ρ2
      | .ct ρ2 => whlN c b n ρ2
      | .bk ρ2 => some (.nx ρ2)
      | .rt d ρ2 => some (.rt d ρ2)
      | .ex x ρ2 => some (.ex x ρ2)
open Classical in
noncomputable def whlD (c : Env → Option (Bool × Env)) (b : Env → Option Flow) (ρ : Env) : Option Flow :=
  if h : ∃ n, (whlN c b n ρ).isSome = true then whlN c b h.choose ρ else none
theorem whlN_mono {c : Env → Option (Bool × Env)} {b : Env → Option Flow} : ∀ {n m : Nat} {ρ : Env} {r : Flow}, n ≤ m → whlN c b n ρ = some r → whlN c b m ρ = some r
  | 0, _, _, _, _, h => by simp [whlN] at h
  | n + 1, 0, _, _, hm, _ => by omega
  | n + 1, m + 1, ρ, r, hm, h => by
    unfold whlN at h ⊢
    cases e : c ρ with
    | none => rw [e] at h; simp at h
    | some p =>
      rw [e] at h
      simp only [Option.bind_some] at h ⊢
      obtain ⟨k, ρ1⟩ := p
      cases k with
      | false => exact h
      | true =>
        simp only at h ⊢
        cases e2 : b ρ1 with
        | none => rw [e2] at h; simp at h
        | some fl =>
          rw [e2] at h
          simp only [Option.bind_some] at h ⊢
          cases fl with
          | nx ρ2 => exact whlN_mono (by omega) h
          | ct ρ2 => exact whlN_mono (by omega) h
          | bk ρ2 => exact h
          | rt d ρ2 => exact h
          | ex x ρ2 => exact h
theorem whlD_of {c : Env → Option (Bool × Env)} {b : Env → Option Flow} {n : Nat} {ρ : Env} {r : Flow} (h : whlN c b n ρ = some r) : whlD c b ρ = some r := by
  have he : ∃ n, (whlN c b n ρ).isSome = true := ⟨n, by rw [h]; rfl⟩
  unfold whlD
  rw [dif_pos he]
  obtain ⟨q, hq⟩ := Option.isSome_iff_exists.mp he.choose_spec
  rw [hq]
  have h1 := whlN_mono (Nat.le_max_left n he.choose) h
  have h2 := whlN_mono (Nat.le_max_right n he.choose) hq
  rw [h1] at h2
  exact h2.symm
theorem whlD_some {c : Env → Option (Bool × Env)} {b : Env → Option Flow} {ρ : Env} {r : Flow} (h : whlD c b ρ = some r) : ∃ n, whlN c b n ρ = some r := by
  unfold whlD at h
  split at h
  · exact ⟨_, h⟩
  · cases h

/-! ### the evaluator -/
abbrev Fs := Nat → List D → Option (D × List (Option D))
abbrev Fx := Nat → List D → Option (Exn × List (Option D))
def takeA : As → List (Option D) → Env → Option (List D × Env)
  | .nil, [], ρ => some ([], ρ)
  | .cons (.val _) as, some d :: ds, ρ => (takeA as ds ρ).map fun p => (d :: p.1, p.2)
  | .cons (.ref i) as, none :: ds, ρ => (getS ρ i).bind fun d => (takeA as ds (ρ.set i none)).map fun p => (d :: p.1, p.2)
  | _, _, _ => none
def putA : As → List (Option D) → Env → Option Env
  | .nil, [], ρ => some ρ
  | .cons (.val _) as, _ :: os, ρ => putA as os ρ
  | .cons (.ref i) as, some d :: os, ρ => putA as os (ρ.set i (some d))
  | _, _, _ => none
def recvD : A → Option D → Env → Option D
  | .val _, x, _ => x
  | .ref i, _, ρ => getS ρ i
/-- the method m of an object -/
def methD (ms : List ((Str × Str) × Nat)) (m : Str) : D → Option Nat
  | .obj _ c ns _ => if ns.contains m = true then none else (ms.find? fun q => decide (q.1 = (c, m))).map fun q => q.2
  | _ => none
/-- what the evaluator knows: the defs, the classes' fields, the classes' methods -/
structure Ctx where
  fs : Fs
  fx : Fx
  cs : List (Str × List Str)
  ms : List ((Str × Str) × Nat)
  xt : List (Str × List Str)
/-- what may stand on the right of an own == -/
def eqR : D → D → Bool
  | .obj _ c _ _, .obj _ c' _ _ => decide (c = c')
  | _, .obj _ _ _ _ => false
  | _, .hole _ => false
  | _, .any => false
  | _, _ => true
def blO : D → Option Bool
  | .bl b => some b
  | _ => none
/-- an answer of a call that changes nothing -/
def bareO {α : Type} : α × List (Option D) → Option α
  | (d, [none, none]) => some d
  | _ => none
def evCst : Cst → D
  | .non => .non
  | .bl b => .bl b
  | .int i => .int i
  | .str x => .str x
section
variable (Γ : Ctx)
mutual
noncomputable def evE : E → Env → Option (D × Env)
  | .cst c, ρ => some (evCst c, ρ)
  | .var i, ρ => (getS ρ i).map fun d => (share d, ρ.set i (some (share d)))
  | .mov i, ρ => (getS ρ i).map fun d => (d, ρ.set i none)
  | .bin op a b, ρ => (evE a ρ).bind fun p => (evE b p.2).bind fun q => (binD op p.1 q.1).map fun d => (d, q.2)
  | .neg a, ρ => (evE a ρ).bind fun p => match p.1 with
    | .int i => some (.int (-i), p.2)
    | _ => none
  | .not a, ρ => (evE a ρ).bind fun p => match p.1 with
    | .bl b => some (.bl (!b), p.2)
    | _ => none
  | .and es, ρ => (evAnd es ρ).map fun p => (.bl p.1, p.2)
  | .or es, ρ => (evOr es ρ).map fun p => (.bl p.1, p.2)
  | .cmp op a b, ρ => (evE a ρ).bind fun p => (evE b p.2).bind fun q => (cmpD op p.1 q.1).map fun d => (.bl d, q.2)
  | .chn op op' a b c, ρ => (evE a ρ).bind fun p => (evE b p.2).bind fun q => (cmpD op p.1 (share q.1)).bind fun d => if d = true then (evE c q.2).bind fun r => (cmpD op' (share q.1) r.1).map fun d' => (.bl d', r.2) else some (.bl false, q.2)
  | .ite c a b, ρ => (evE c ρ).bind fun p => match p.1 with
    | .bl true => evE a p.2
    | .bl false => evE b p.2
    | _ => none
  | .lst es, ρ => (evEs es ρ).bind fun p => if p.1.length ≤ SZ then some (.lst .own p.1, p.2) else none
  | .tup es, ρ => (evEs es ρ).bind fun p => if p.1.length ≤ SZ then some (.tup p.1, p.2) else none
  | .idx a b, ρ => (evE a ρ).bind fun p => (evE b p.2).bind fun q => (idxD p.1 q.1).map fun d => (d, q.2)
  | .idv i b, ρ => (getS ρ i).bind fun _ => (evE b ρ).bind fun p => (getS p.2 i).bind fun x => (idvD x p.1).map fun r => (r.1, p.2.set i (some r.2))
  | .slc a lo hi, ρ => (evE a ρ).bind fun p => (evO lo p.2).bind fun l => (evO hi l.2).bind fun h => (slcD p.1 l.1 h.1).map fun d => (d, h.2)
  | .call f as, ρ => (evAs as ρ).bind fun p => (takeA as p.1 p.2).bind fun q => (Γ.fs f q.1).bind fun r => (putA as r.2 q.2).map fun ρ' => (r.1, ρ')
  | .meth m o as, ρ => (evA o ρ).bind fun x => (recvD o x.1 x.2).bind fun s => (methD Γ.ms m s).bind fun f => (evAs as x.2).bind fun p => (takeA (.cons o as) (x.1 :: p.1) p.2).bind fun q => (Γ.fs f q.1).bind fun r => (putA (.cons o as) r.2 q.2).map fun ρ' => (r.1, ρ')
  | .make c f as, ρ => (evAs as ρ).bind fun p => (takeA as p.1 p.2).bind fun q => (Γ.fs f (.obj .own c [] [] :: q.1)).bind fun r => match r with
    | (.non, some d :: os) => (putA as os q.2).map fun ρ' => (d, ρ')
    | _ => none
  | .blt b es, ρ => (evEs es ρ).bind fun p => (bltD b p.1).map fun d => (d, p.2)
  | .isi a t, ρ => (evE a ρ).bind fun p => (isiD p.1 t).map fun b => (.bl b, p.2)
  | .fld a f, ρ => (evE a ρ).bind fun p => if hasFld Γ.cs f p.1 = true then (fldD p.1 f).map fun d => (d, p.2) else none
  | .flv i f, ρ => (getS ρ i).bind fun x => if hasFld Γ.cs f x = true then (flvD x f).map fun r => (r.1, ρ.set i (some r.2)) else none
  | .comp elt t it cond, ρ => (evIt it ρ).bind fun p => (compL (bindT t) (evC cond) (evE elt) t.slots p.1 (wipeD p.2 t.slots) []).map fun q => (.lst .own q.1, q.2)
  | .shr a, ρ => (evE a ρ).map fun p => (share p.1, p.2)
  | .lnv i, ρ => (getS ρ i).bind fun d => (lenD d).map fun n => (n, ρ)
  | .dic0, ρ => some (.dic, ρ)
  | .gti o b, ρ => (evE o ρ).bind fun p => (evE b p.2).bind fun q => (methD Γ.ms (Str.ofString "__getitem__") p.1).bind fun f => (Γ.fs f [p.1, q.1]).bind fun r => (bareO r).map fun d => (d, q.2)
  | .oeq o b, ρ => (evE o ρ).bind fun p => (evE b p.2).bind fun q => if eqR p.1 q.1 = true then (methD Γ.ms (Str.ofString "__eq__") p.1).bind fun f => (Γ.fs f [p.1, q.1]).bind fun r => (bareO r).bind fun d => (blO d).map fun k => (.bl k, q.2) else none
  | .lrg a, ρ => (evE a ρ).bind fun p => match p.1 with
    | .int n => @ite _ (-(2 ^ 62) ≤ n ∧ n ≤ 16777216) (Classical.propDecidable _) (some (.lst .own (rngL 0 n.toNat), p.2)) none
    | _ => none
  | .plc p, ρ => (getP ρ p).bind fun y => (putP ρ p (share y)).map fun z => (share y, ρ.set p.base (some z))
  | .bor a, ρ => (evE a (viewD ρ)).bind fun p => if closedD p.1 = true then some (p.1, ρ) else none
  | .comp2 elt t1 it1 t2 it2 cond, ρ => (evIt it1 ρ).bind fun p => (comp2L t1 t2 (evIt it2) (evC cond) (evE elt) p.1 (wipeD p.2 (t1.slots ++ t2.slots)) []).map fun q => (.lst .own q.1, q.2)
noncomputable def evC : OE → Env → Option (Bool × Env)
  | .no, ρ => some (true, ρ)
  | .yes e, ρ => (evE e ρ).bind fun p => match p.1 with
    | .bl b => some (b, p.2)
    | _ => none
noncomputable def evO : OE → Env → Option (Option Int × Env)
  | .no, ρ => some (none, ρ)
  | .yes e, ρ => (evE e ρ).bind fun p => match p.1 with
    | .int i => some (some i, p.2)
    | _ => none
noncomputable def evAnd : Es → Env → Option (Bool × Env)
  | .cons e .nil, ρ => (evE e ρ).bind fun p => match p.1 with
    | .bl b => some (b, p.2)
    | _ => none
  | .cons e es, ρ => (evE e ρ).bind fun p => match p.1 with
    | .bl true => evAnd es p.2
    | .bl false => some (false, p.2)
    | _ => none
  | _, _ => none
noncomputable def evOr : Es → Env → Option (Bool × Env)
  | .cons e .nil, ρ => (evE e ρ).bind fun p => match p.1 with
    | .bl b => some (b, p.2)
    | _ => none
  | .cons e es, ρ => (evE e ρ).bind fun p => match p.1 with
    | .bl false => evOr es p.2
    | .bl true => some (true, p.2)
    | _ => none
  | _, _ => none
noncomputable def evEs : Es → Env → Option (List D × Env)
  | .nil, ρ => some ([], ρ)
  | .cons e es, ρ => (evE e ρ).bind fun p => (evEs es p.2).map fun q => (p.1 :: q.1, q.2)
  | .star e es, ρ => (evE e ρ).bind fun p => match p.1 with
    | .tup xs => (evEs es p.2).map fun q => (shares xs ++ q.1, q.2)
    | .lst _ xs => (evEs es p.2).map fun q => (shares xs ++ q.1, q.2)
    | _ => none
noncomputable def evA : A → Env → Option (Option D × Env)
  | .val e, ρ => (evE e ρ).map fun p => (some p.1, p.2)
  | .ref i, ρ => (getS ρ i).map fun _ => (none, ρ)
noncomputable def evAs : As → Env → Option (List (Option D) × Env)
  | .nil, ρ => some ([], ρ)
  | .cons a as, ρ => (evA a ρ).bind fun p => (evAs as p.2).map fun q => (p.1 :: q.1, q.2)
noncomputable def evIt : It → Env → Option (List D × Env)
  | .seq e, ρ => (evE e ρ).bind fun p => match p.1 with
    | .lst _ xs => some (shares xs, p.2)
    | .tup xs => some (shares xs, p.2)
    | _ => none
  | .rng e, ρ => (evE e ρ).bind fun p => match p.1 with
    | .int n => @ite _ (-(2 ^ 62) ≤ n ∧ n < 2 ^ 62) (Classical.propDecidable _) (some (rngL 0 n.toNat, p.2)) none
    | _ => none
  | .mvs i, ρ => ((getS ρ i).bind lstO).map fun ds => (ds, ρ.set i none)
  | .rng2 a b, ρ => (evE a ρ).bind fun p => (evE b p.2).bind fun q => match p.1, q.1 with
    | .int i, .int j => @ite _ (-(2 ^ 62) ≤ i ∧ i < 2 ^ 62 ∧ -(2 ^ 62) ≤ j ∧ j < 2 ^ 62) (Classical.propDecidable _) (some (rngL i (j - i).toNat, q.2)) none
    | _, _ => none
  | .zip a b, ρ => (evE a ρ).bind fun p => (evE b p.2).bind fun q => match p.1, q.1 with
    | .lst _ xs, .lst _ ys => some (zipL (shares xs) (shares ys), q.2)
    | _, _ => none
  | .enum e, ρ => (evE e ρ).bind fun p => match p.1 with
    | .lst _ xs => some (enumL 0 (shares xs), p.2)
    | _ => none
end
mutual
/-- how an expression raises -/
noncomputable def evX : E → Env → Option (Exn × Env)
  | .call f as, ρ => (evAs Γ as ρ).bind fun p => (takeA as p.1 p.2).bind fun q => (Γ.fx f q.1).bind fun r => (putA as r.2 q.2).map fun ρ' => (r.1, ρ')
  | .meth m o as, ρ => (evA Γ o ρ).bind fun x => (recvD o x.1 x.2).bind fun s => (methD Γ.ms m s).bind fun f => (evAs Γ as x.2).bind fun p => (takeA (.cons o as) (x.1 :: p.1) p.2).bind fun q => (Γ.fx f q.1).bind fun r => (putA (.cons o as) r.2 q.2).map fun ρ' => (r.1, ρ')
  | .make c f as, ρ => (evAs Γ as ρ).bind fun p => (takeA as p.1 p.2).bind fun q => (Γ.fx f (.obj .own c [] [] :: q.1)).bind fun r => match r with
    | (x, _ :: os) => (putA as os q.2).map fun ρ' => (x, ρ')
    | _ => none
  | .shr a, ρ => evX a ρ
  | .tup es, ρ => evXs es ρ
  | .cmp _ a _, ρ => evX a ρ
  | .blt _ es, ρ => evXs es ρ
  | .gti o b, ρ => (evE Γ o ρ).bind fun p => (evE Γ b p.2).bind fun q => (methD Γ.ms (Str.ofString "__getitem__") p.1).bind fun f => (Γ.fx f [p.1, q.1]).bind fun r => (bareO r).map fun x => (x, q.2)
  | _, _ => none
noncomputable def evXs : Es → Env → Option (Exn × Env)
  | .cons e es, ρ => match evE Γ e ρ with
    | some p => evXs es p.2
    | none => evX e ρ
  | _, _ => none
end
/-- is an exception of the class c one of the class c'? -/
def isX (xt : List (Str × List Str)) (c c' : Str) : Option Bool := (xt.lookup c).map fun l => l.contains c'
def intO : D → Option Bool
  | .int _ => some true
  | .bl _ => some false
  | .str _ => some false
  | .non => some false
  | _ => none
mutual
def evSE (x : Exn) : SE → Option D
  | .cst c => some (evCst c)
  | .fld f => x.a.bind fun p => if p.1 = f then some (share p.2) else none
  | .isx c => (isX Γ.xt x.c c).map .bl
  | .tup es => (evSEs x es).bind fun ds => if ds.length ≤ SZ then some (.tup ds) else none
  | .and a b => (evSE x a).bind fun d => match d with
    | .bl true => (evSE x b).bind fun d' => match d' with
      | .bl k => some (.bl k)
      | _ => none
    | .bl false => some (.bl false)
    | _ => none
  | .isint _ a => (evSE x a).bind fun d => (intO d).map .bl
def evSEs (x : Exn) : SEs → Option (List D)
  | .nil => some []
  | .cons e es => (evSE x e).bind fun d => (evSEs x es).map fun ds => d :: ds
end
def slOut (ρ : Env) : Option Nat → Env
  | none => ρ
  | some i => ρ.set i none
def exSS (x : Exn) (ρ : Env) : SS → Option Flow
  | .set i e => (evSE Γ x e).bind fun d => (putS ρ i d).map .nx
  | .ret e => (evSE Γ x e).map fun d => .rt d ρ
def exHd (x : Exn) (ρ : Env) : List Hd → Option Flow
  | [] => some (.ex x ρ)
  | h :: hs => (isX Γ.xt x.c h.c).bind fun b => if b = true then exSS Γ x (slOut ρ h.sl) h.s else exHd x ρ hs
def altF (a b : Option Flow) : Option Flow := match a with
  | some fl => some fl
  | none => b
def orX (a : Option Flow) (b : Option (Exn × Env)) : Option Flow := match a with
  | some fl => some fl
  | none => b.map fun p => .ex p.1 p.2
noncomputable def mayN (e : E) (ρ : Env) : May → Option Flow
  | .set t => (evE Γ e ρ).bind fun p => (bindT t p.1 p.2).map .nx
  | .ex => (evE Γ e ρ).map fun p => .nx p.2
  | .ret => (evE Γ e ρ).map fun p => .rt p.1 p.2
def g2 (eb ec : Env → Option (D × Env)) (i j : Nat) (d : D) (ρ : Env) : Option Env := match d with
  | .tup [d1, d2] => ((getS ρ i).bind fun _ => (eb ρ).bind fun q => (getS q.2 i).bind fun x => (setID x q.1 d1).map fun z => q.2.set i (some z)).bind fun ρ1 =>
      (getS ρ1 j).bind fun _ => (ec ρ1).bind fun q => (getS q.2 j).bind fun x => (setID x q.1 d2).map fun z => q.2.set j (some z)
  | _ => none
mutual
noncomputable def exS : S → Env → Option Flow
  | .set t e, ρ => (evE Γ e ρ).bind fun p => (bindT t p.1 p.2).map .nx
  | .setI i b e, ρ => (evE Γ e ρ).bind fun p => (getS p.2 i).bind fun _ => (evE Γ b p.2).bind fun q => (getS q.2 i).bind fun x => (setID x q.1 p.1).map fun z => .nx (q.2.set i (some z))
  | .setF i f e, ρ => (evE Γ e ρ).bind fun p => (getS p.2 i).bind fun x => if hasFld Γ.cs f x = true then (setFD x f p.1).map fun z => .nx (p.2.set i (some z)) else none
  | .aug i op e, ρ => (getS ρ i).bind fun x => (evE Γ e ρ).bind fun p => (augD op x p.1).bind fun z => (putS p.2 i z).map .nx
  | .app i e, ρ => (getS ρ i).bind fun x0 => if isLst x0 = true then (evE Γ e ρ).bind fun p => (getS p.2 i).bind fun x => (appD x p.1).map fun z => .nx (p.2.set i (some z)) else none
  | .ex e, ρ => (evE Γ e ρ).map fun p => .nx p.2
  | .ite c a b, ρ => (evE Γ c ρ).bind fun p => match p.1 with
    | .bl true => exSs a p.2
    | .bl false => exSs b p.2
    | _ => none
  | .loop t it b, ρ => (evIt Γ it ρ).bind fun p => forL (bindT t) (exSs b) p.1 p.2
  | .whl c b, ρ => whlD (evC Γ (.yes c)) (exSs b) ρ
  | .ret e, ρ => (evE Γ e ρ).map fun p => .rt p.1 p.2
  | .retN, ρ => some (.rt .non ρ)
  | .brk, ρ => some (.bk ρ)
  | .cnt, ρ => some (.ct ρ)
  | .pass, ρ => some (.nx ρ)
  | .nev, _ => none
  | .setP p ix e, ρ => (evE Γ e ρ).bind fun q => (getP q.2 p).bind fun x => (ixD q.2 ix).bind fun n => (setID x (.int n) q.1).bind fun x' => (putP q.2 p x').map fun z => .nx (q.2.set p.base (some z))
  | .mutP p op es, ρ => (getP ρ p).bind fun x => (lstO x).bind fun ds => (evEs Γ es (ρ.set p.base none)).bind fun q => (mopD op ds q.1).bind fun ds' => (putP ρ p (.lst .own ds')).map fun z => .nx (q.2.set p.base (some z))
  | .par is es, ρ => (evEs Γ es ρ).bind fun p => (putAll p.2 is p.1).map .nx
  | .bor is s, ρ => (exS s (viewD ρ)).bind fun fl => match fl with
    | .nx _ => some (.nx (wipeD ρ is))
    | .rt d _ => if closedD d = true then some (.rt d (wipeD ρ is)) else none
    | _ => none
  | .may k e, ρ => orX (mayN Γ e ρ k) (evX Γ e ρ)
  | .rse0 c, ρ => some (.ex ⟨c, none⟩ ρ)
  | .rse1 c f e, ρ => (evE Γ e ρ).map fun p => .ex ⟨c, some (f, p.1)⟩ p.2
  | .try_ b hs, ρ => (exSs b ρ).bind fun fl => match fl with
    | .ex x ρ1 => exHd Γ x ρ1 hs
    | fl => some fl
  | .setS i a b e, ρ => (evE Γ e ρ).bind fun p => (getS p.2 i).bind fun _ => (evE Γ a p.2).bind fun q => (evE Γ b q.2).bind fun r => (getS r.2 i).bind fun x => (slcS x q.1 r.1 p.1).map fun z => .nx (r.2.set i (some z))
  | .swp i j a b e, ρ => (evE Γ e ρ).bind fun p => (g2 (evE Γ a) (evE Γ b) i j p.1 p.2).map .nx
  | .mutN i op es, ρ => (getS ρ i).bind fun x0 => if isLst x0 = true then (evEs Γ es ρ).bind fun q => (getS q.2 i).bind fun x => (lstO x).bind fun ds => (mopD op ds q.1).map fun ds' => .nx (q.2.set i (some (.lst .own ds'))) else none
  | .loopO t b body, ρ => (lenO ρ b).bind fun n => loopOL (exSs body) t b n n 0 ρ
noncomputable def exSs : Ss → Env → Option Flow
  | .nil, ρ => some (.nx ρ)
  | .alt a b, ρ => altF (exSs a ρ) (exSs b ρ)
  | .ali i p body rest, ρ => (getP ρ p).bind fun y => (ixsD ρ p).bind fun ns => (allV fun v => ((putP ρ p (.hole v)).bind fun z => putS (ρ.set p.base (some z)) i y).bind fun ρ1 => (exSs body ρ1).bind (giveF i p.base ns v)).bind fun fl => match fl with
    | .nx ρ1 => exSs rest ρ1
    | fl => some fl
  | .ali2 t i p body rest, ρ => (getP ρ p).bind fun y => (pair2 y).bind fun ab => (ixsD ρ (.sub p (.c 1))).bind fun ns => (allV fun v => ((putP ρ (.sub p (.c 1)) (.hole v)).bind fun z => (putS (ρ.set p.base (some z)) t ab.1).bind fun ρ0 => putS ρ0 i ab.2).bind fun ρ1 => (exSs body ρ1).bind (giveF i p.base ns v)).bind fun fl => match fl with
    | .nx ρ1 => exSs rest ρ1
    | fl => some fl
  | .cons s ss, ρ => (exS s ρ).bind fun fl => match fl with
    | .nx ρ1 => exSs ss ρ1
    | fl => some fl
end
end
/-! ### defs -/
structure Fn where
  at_ : Str × Option Str
  ps : List Str
  N : List Str
  io : List Nat
  body : Ss
def outsFrom (io : List Nat) (ρ : Env) : Nat → Nat → List (Option D)
  | _, 0 => []
  | i, n + 1 => (if i ∈ io then getS ρ i else none) :: outsFrom io ρ (i + 1) n
noncomputable def runFn (Γ : Ctx) (fn : Fn) (ds : List D) : Option (D × List (Option D)) :=
  if ds.length = fn.ps.length then
    (exSs Γ fn.body (ds.map some ++ List.replicate (fn.N.length - ds.length) none)).bind fun fl => match fl with
      | .nx ρ => some (.non, outsFrom fn.io ρ 0 fn.ps.length)
      | .rt d ρ => some (d, outsFrom fn.io ρ 0 fn.ps.length)
      | _ => none
  else none
noncomputable def runFnX (Γ : Ctx) (fn : Fn) (ds : List D) : Option (Exn × List (Option D)) :=
  if ds.length = fn.ps.length then
    (exSs Γ fn.body (ds.map some ++ List.replicate (fn.N.length - ds.length) none)).bind fun fl => match fl with
      | .ex x ρ => some (x, outsFrom fn.io ρ 0 fn.ps.length)
      | _ => none
  else none
/-- the program: its defs, its classes' fields and methods; its exception classes: what they are, their field -/
structure Tab where
  fns : List Fn
  cs : List (Str × List Str)
  ms : List ((Str × Str) × Nat)
  xt : List (Str × List Str)
  xi : List (Str × Str)
  isn : List Nat
  oc : List Str
noncomputable def runs (T : Tab) : Nat → Fs × Fx
  | 0 => (fun _ _ => none, fun _ _ => none)
  | k + 1 => (fun f ds => (T.fns[f]?).bind fun fn => runFn ⟨(runs T k).1, (runs T k).2, T.cs, T.ms, T.xt⟩ fn ds, fun f ds => (T.fns[f]?).bind fun fn => runFnX ⟨(runs T k).1, (runs T k).2, T.cs, T.ms, T.xt⟩ fn ds)
noncomputable def run (T : Tab) (k : Nat) : Fs := (runs T k).1
noncomputable def runX (T : Tab) (k : Nat) : Fx := (runs T k).2
end FL

/-! F3: what can be done with roots. -/
namespace FL
open PySem PySem.Spec PyProof.Rows L2
abbrev tmp (v : V) (d : D) : Root := (some v, some d)
def tmps : List V → List D → List Root
  | v :: vs, d :: ds => tmp v d :: tmps vs ds
  | _, _ => []
section
variable {K : PySem.W.Frag} {G H G' H' Gf : Hp} {N : List Addr} {rs rs' ts : List Root} {v : V} {d : D}

theorem RepO.tail {r : Root} {F : List Addr} (h : RepO K G H (r :: rs) F) : ∃ F1 F2, F = F1 ++ F2 ∧ RepO K G H rs F2 := by
  cases h with
  | skip h => exact ⟨[], F, rfl, h⟩
  | cons _ h => exact ⟨_, _, rfl, h⟩
theorem SR.drop {r : Root} (h : SR K Gf N H (r :: rs)) : SR K Gf N H rs := by
  obtain ⟨n, F, nd, r, g⟩ := h
  obtain ⟨F1, F2, rfl, r2⟩ := r.tail
  obtain ⟨_, nd2, _⟩ := List.nodup_append.mp nd
  refine ⟨n, F2, nd2, r2.mono (hid_mono fun a ha => ?_) fun _ _ => rfl, g.trans (hid_mono fun a ha => List.mem_append_right _ ha)⟩
  rcases List.mem_append.mp ha with ha | ha
  · exact List.mem_append_left _ (List.mem_append_right _ ha)
  · exact List.mem_append_right _ ha
theorem SR.dropL : ∀ {rs' : List Root}, SR K Gf N H (rs' ++ rs) → SR K Gf N H rs
  | [], h => h
  | _ :: rs', h => SR.dropL (rs' := rs') h.drop
theorem SR.skip {o : Option V} (h : SR K Gf N H rs) : SR K Gf N H ((o, none) :: rs) := by
  obtain ⟨n, F, nd, r, g⟩ := h
  exact ⟨n, F, nd, .skip r, g⟩
theorem SR.unskip {o : Option V} (h : SR K Gf N H ((o, none) :: rs)) : SR K Gf N H rs := h.drop
/-- the head is shared -/
theorem SR.share1 (h : SR K Gf N H (tmp v d :: rs)) : SR K Gf N H (tmp v (share d) :: rs) := by
  obtain ⟨n, F, nd, r, g⟩ := h
  cases r with
  | cons x r =>
    rename_i F1 F2
    obtain ⟨_, nd2, dj⟩ := List.nodup_append.mp nd
    have hN : ∀ a ∈ N, a ∉ F1 ++ F2 := fun a ha => by
      obtain ⟨o, e⟩ := n a ha
      exact (hid_some.mp (g a o e)).1
    have le : Le (hid (F1 ++ F2 ++ N) H) (hid (F2 ++ N) H) := hid_mono fun a ha => by
      rcases List.mem_append.mp ha with ha | ha
      · exact List.mem_append_left _ (List.mem_append_right _ ha)
      · exact List.mem_append_right _ ha
    refine ⟨n, F2, nd2, RepO.cons (F1 := []) (x.share le fun a ha => ?_) (r.mono le fun _ _ => rfl), g.trans (hid_mono fun a ha => List.mem_append_right _ ha)⟩
    refine hid_out fun z => ?_
    rcases List.mem_append.mp z with z | z
    · exact dj a ha a z rfl
    · exact hN a z (List.mem_append_left _ ha)
/-- facts of the head -/
theorem SR.head (h : SR K Gf N H (tmp v d :: rs)) : ∃ G F, Le G H ∧ Rep K G H v d F := by
  obtain ⟨n, F, nd, r, g⟩ := h
  cases r with
  | cons x r => exact ⟨_, _, hid_le, x⟩
/-- from a shared head comes a further root that leans on it -/
theorem SR.more {v' : V} {d' : D} (h : SR K Gf N H (tmp v d :: rs)) (hs : share d = d) (f : ∀ G, Le G H → Rep K G H v d [] → Rep K G H v' d' []) : SR K Gf N H (tmp v' d' :: tmp v d :: rs) := by
  obtain ⟨n, F, nd, r, g⟩ := h
  cases r with
  | cons x r =>
    rename_i F1 F2
    have e := x.sharedF hs
    subst e
    exact ⟨n, [] ++ F2, nd, RepO.cons (F1 := []) (f _ hid_le x) (RepO.cons (F1 := []) x r), g⟩
theorem SR.dup (h : SR K Gf N H (tmp v d :: rs)) (hs : share d = d) : SR K Gf N H (tmp v d :: tmp v d :: rs) := h.more hs fun _ _ x => x
/-- a value without objects -/
inductive Flat : V → D → Prop
  | non : Flat .non .non
  | bl (b : Bool) : Flat (.bl b) (.bl b)
  | int (i : Int) : Flat (.int i) (.int i)
  | str (x : Str) : Flat (.str x) (.str x)
theorem Flat.rep (f : Flat v d) : Rep K G H v d [] := by cases f <;> constructor
theorem SR.flat (h : SR K Gf N H rs) (f : Flat v d) : SR K Gf N H (tmp v d :: rs) := by
  obtain ⟨n, F, nd, r, g⟩ := h
  exact ⟨n, [] ++ F, nd, RepO.cons (F1 := []) f.rep r, g⟩
theorem SR.swap2 {r r' : Root} (h : SR K Gf N H (r :: r' :: rs)) : SR K Gf N H (r' :: r :: rs) := h.perm (.swap _ _ _)
theorem SR.toFront {r : Root} (h : SR K Gf N H (rs' ++ r :: rs)) : SR K Gf N H (r :: (rs' ++ rs)) := h.perm List.perm_middle
theorem SR.fromFront {r : Root} (h : SR K Gf N H (r :: (rs' ++ rs))) : SR K Gf N H (rs' ++ r :: rs) := h.perm List.perm_middle.symm

/-! ### slots -/
theorem zip_get {σ : L2.St} {ρ : Env} {i : Nat} {o : Option V} {x : Option D} (h1 : σ[i]? = some o) (h2 : ρ[i]? = some x) : (σ.zip ρ)[i]? = some (o, x) := by
  rw [List.getElem?_zip_eq_some]; exact ⟨h1, h2⟩
theorem zip_set2 : ∀ (σ : L2.St) (ρ : Env) (i : Nat) (x : Option D) (o : Option V), σ[i]? = some o → σ.zip (ρ.set i x) = (σ.zip ρ).set i (o, x)
  | [], _, _, _, _, h => by simp at h
  | _ :: _, [], _, _, _, _ => by simp
  | _ :: σ, _ :: ρ, 0, x, o, h => by simp at h; subst h; simp
  | _ :: σ, _ :: ρ, i + 1, x, o, h => by
    simp only [List.set_cons_succ, List.zip_cons_cons]
    rw [zip_set2 σ ρ i x o (by simpa using h)]
theorem perm_set {α : Type} : ∀ {l : List α} {i : Nat} {a b : α}, l[i]? = some a → ∃ m, l.Perm (a :: m) ∧ (l.set i b).Perm (b :: m)
  | [], _, _, _, h => by simp at h
  | x :: l, 0, a, b, h => by
    simp at h; subst h
    exact ⟨l, .refl _, by simp⟩
  | x :: l, i + 1, a, b, h => by
    obtain ⟨m, p, q⟩ := perm_set (l := l) (i := i) (b := b) (by simpa using h)
    refine ⟨x :: m, (p.cons x).trans (.swap _ _ _), ?_⟩
    simp only [List.set_cons_succ]
    exact (q.cons x).trans (.swap _ _ _)
theorem getS_some {ρ : Env} {i : Nat} (h : getS ρ i = some d) : ρ[i]? = some (some d) := by
  unfold getS at h
  split at h
  · cases h; assumption
  · cases h
theorem RepO.at_ : ∀ {rs : List Root} {F : List Addr} {i : Nat} {o : Option V}, RepO K G H rs F → rs[i]? = some (o, some d) → ∃ v, o = some v
  | _, _, i, o, .nil, h => by simp at h
  | _, _, 0, o, .skip r, h => by simp at h
  | _, _, i + 1, o, .skip r, h => RepO.at_ (i := i) r (by simpa using h)
  | _, _, 0, o, .cons x r, h => by simp at h; exact ⟨_, h.1.symm⟩
  | _, _, i + 1, o, .cons x r, h => RepO.at_ (i := i) r (by simpa using h)
theorem SR.slotV {σ : L2.St} {ρ : Env} {i : Nat} (h : SR K Gf N H (ts ++ σ.zip ρ)) (hl : σ.length = ρ.length) (e : getS ρ i = some d) : ∃ v, σ[i]? = some (some v) := by
  have e2 := getS_some e
  have hi : i < σ.length := by
    rw [hl]
    exact (List.getElem?_eq_some_iff.mp e2).1
  have e1 : σ[i]? = some σ[i] := List.getElem?_eq_getElem hi
  obtain ⟨_, F, _, r, _⟩ := h.dropL
  obtain ⟨v, q⟩ := r.at_ (zip_get e1 e2)
  exact ⟨v, by rw [e1, q]⟩
theorem SR.take {σ : L2.St} {ρ : Env} {i : Nat} (h : SR K Gf N H (ts ++ σ.zip ρ)) (e : getS ρ i = some d) (ev : σ[i]? = some (some v)) : SR K Gf N H (tmp v d :: (ts ++ σ.zip (ρ.set i none))) := by
  obtain ⟨m, p, q⟩ := perm_set (b := ((some v, none) : Root)) (zip_get ev (getS_some e))
  rw [zip_set2 _ _ _ _ _ ev]
  have h1 : SR K Gf N H (tmp v d :: (ts ++ m)) := h.perm ((p.append_left ts).trans List.perm_middle)
  have h2 : SR K Gf N H ((some v, none) :: tmp v d :: (ts ++ m)) := h1.skip
  refine h2.perm ((List.Perm.swap _ _ _).trans (.cons _ ?_))
  exact (List.perm_middle.symm).trans (q.symm.append_left ts)
theorem SR.put {σ : L2.St} {ρ : Env} {i : Nat} (h : SR K Gf N H (tmp v d :: (ts ++ σ.zip ρ))) (hi : i < ρ.length) (ev : σ[i]? = some (some v)) : SR K Gf N H (ts ++ σ.zip (ρ.set i (some d))) := by
  obtain ⟨m, p, q⟩ := perm_set (b := tmp v d) (zip_get ev (List.getElem?_eq_getElem hi))
  rw [zip_set2 _ _ _ _ _ ev]
  have h1 : SR K Gf N H ((some v, ρ[i]) :: (tmp v d :: (ts ++ m))) := h.perm ((List.Perm.cons _ ((p.append_left ts).trans List.perm_middle)).trans (.swap _ _ _))
  exact h1.drop.perm (List.perm_middle.symm.trans (q.symm.append_left ts))
theorem SR.forget {σ : L2.St} {ρ : Env} {i : Nat} (h : SR K Gf N H (ts ++ σ.zip ρ)) (hi : i < σ.length) : SR K Gf N H (ts ++ σ.zip (ρ.set i none)) := by
  have ev : σ[i]? = some σ[i] := List.getElem?_eq_getElem hi
  by_cases hr : i < ρ.length
  · obtain ⟨m, p, q⟩ := perm_set (b := ((σ[i], none) : Root)) (zip_get ev (List.getElem?_eq_getElem hr))
    rw [zip_set2 _ _ _ _ _ ev]
    have h1 : SR K Gf N H ((σ[i], ρ[i]) :: (ts ++ m)) := h.perm ((p.append_left ts).trans List.perm_middle)
    exact (h1.drop.skip (o := σ[i])).perm (List.perm_middle.symm.trans (q.symm.append_left ts))
  · rw [List.set_eq_of_length_le (by omega)]; exact h
/-- a slot's value is stored: σ changes too -/
theorem SR.store {σ : L2.St} {ρ : Env} {i : Nat} (h : SR K Gf N H (tmp v d :: (ts ++ σ.zip ρ))) (hl : σ.length = ρ.length) (hi : i < ρ.length) : SR K Gf N H (ts ++ (σ.set i (some v)).zip (ρ.set i (some d))) := by
  have hs : i < σ.length := by omega
  have ev : σ[i]? = some σ[i] := List.getElem?_eq_getElem hs
  obtain ⟨m, p, q⟩ := perm_set (b := tmp v d) (zip_get ev (List.getElem?_eq_getElem hi))
  have e : (σ.set i (some v)).zip (ρ.set i (some d)) = (σ.zip ρ).set i (tmp v d) := by
    have zz : ∀ (σ : L2.St) (ρ : Env) (i : Nat), (σ.set i (some v)).zip (ρ.set i (some d)) = (σ.zip ρ).set i (tmp v d) := by
      intro σ
      induction σ with
      | nil => intro ρ i; simp
      | cons a σ ih =>
        intro ρ i
        cases ρ with
        | nil => simp
        | cons b ρ =>
          cases i with
          | zero => simp
          | succ i => simp [ih ρ i]
    exact zz σ ρ i
  rw [e]
  have h1 : SR K Gf N H ((σ[i], ρ[i]) :: (tmp v d :: (ts ++ m))) := h.perm ((List.Perm.cons _ ((p.append_left ts).trans List.perm_middle)).trans (.swap _ _ _))
  exact h1.drop.perm (List.perm_middle.symm.trans (q.symm.append_left ts))

/-! ### new objects -/
theorem tmps_reps : ∀ {vs : List V} {ds : List D} {F : List Addr}, vs.length = ds.length → RepO K G H (tmps vs ds) F → Reps K G H vs ds F
  | [], [], _, _, .nil => .nil
  | v :: vs, d :: ds, _, hl, .cons x r => .cons x (tmps_reps (by simpa using hl) r)
  | [], _ :: _, _, hl, _ => by simp at hl
  | _ :: _, [], _, hl, _ => by simp at hl
theorem reps_tmps : ∀ {vs : List V} {ds : List D} {F : List Addr}, Reps K G H vs ds F → RepO K G H (tmps vs ds) F
  | _, _, _, .nil => .nil
  | _, _, _, .cons x r => .cons x (reps_tmps r)
theorem notN {p : Addr} (n : ∀ a ∈ N, ∃ o, Gf a = some o) {F : List Addr} (g : Le Gf (hid F H)) (hp : H p = none) : p ∉ N := fun z => by
  obtain ⟨o, e⟩ := n p z
  have := (hid_some.mp (g p o e)).2
  rw [hp] at this; cases this
theorem le_upd {F : List Addr} {p : Addr} {o : HO} (hp : H p = none) : Le (hid F H) (hid F (upd H p o)) := fun a u e => by
  obtain ⟨x, y⟩ := hid_some.mp e
  exact hid_some.mpr ⟨x, by rw [upd_ne (ne_of_none y hp)]; exact y⟩
theorem SR.newL {vs : List V} {ds : List D} {p : Addr} (h : SR K Gf N H (tmps vs ds ++ rs)) (hl : vs.length = ds.length) (hp : H p = none) : SR K Gf N (upd H p (.lst vs)) (tmp (.ref p) (.lst .own ds) :: rs) := by
  obtain ⟨n, F, nd, r, g⟩ := h
  obtain ⟨F1, F2, rfl, r1, r2⟩ := r.split
  have hF : p ∉ F1 ++ F2 := fun z => by
    obtain ⟨o, e⟩ := (r1.append r2).dom p z
    rw [hp] at e; cases e
  have hN := notN n g hp
  have le : Le (hid (F1 ++ F2 ++ N) H) (hid ((p :: F1) ++ F2 ++ N) (upd H p (.lst vs))) := fun a u e => by
    obtain ⟨x, y⟩ := hid_some.mp e
    have hne := ne_of_none y hp
    exact hid_some.mpr ⟨by simp only [List.cons_append, List.mem_cons, not_or]; exact ⟨hne, x⟩, by rw [upd_ne hne]; exact y⟩
  have keep : ∀ a ∈ F1 ++ F2, upd H p (.lst vs) a = H a := fun a ha => upd_ne fun z => hF (z ▸ ha)
  refine ⟨n, (p :: F1) ++ F2, List.nodup_cons.mpr ⟨hF, nd⟩, RepO.cons (.lstO upd_same ((tmps_reps hl r1).mono le fun a ha => keep a (List.mem_append_left _ ha))) (r2.mono le fun a ha => keep a (List.mem_append_right _ ha)), fun a u e => ?_⟩
  obtain ⟨x, y⟩ := hid_some.mp (g a u e)
  have hne := ne_of_none y hp
  exact hid_some.mpr ⟨by simp only [List.cons_append, List.mem_cons, not_or]; exact ⟨hne, x⟩, by rw [upd_ne hne]; exact y⟩
theorem SR.newT {vs : List V} {ds : List D} {p : Addr} (h : SR K Gf N H (tmps vs ds ++ rs)) (hl : vs.length = ds.length) (hp : H p = none) : SR K Gf N (upd H p (.tup vs)) (tmp (.ref p) (.tup ds) :: rs) := by
  obtain ⟨n, F, nd, r, g⟩ := h
  obtain ⟨F1, F2, rfl, r1, r2⟩ := r.split
  have hF : p ∉ F1 ++ F2 := fun z => by
    obtain ⟨o, e⟩ := (r1.append r2).dom p z
    rw [hp] at e; cases e
  have hN := notN n g hp
  have le : Le (hid (F1 ++ F2 ++ N) H) (hid (F1 ++ F2 ++ N) (upd H p (.tup vs))) := le_upd hp
  have keep : ∀ a ∈ F1 ++ F2, upd H p (.tup vs) a = H a := fun a ha => upd_ne fun z => hF (z ▸ ha)
  refine ⟨n, F1 ++ F2, nd, RepO.cons (.tup (.inl (.inl (hid_some.mpr ⟨fun z => ?_, upd_same⟩))) ((tmps_reps hl r1).mono le fun a ha => keep a (List.mem_append_left _ ha))) (r2.mono le fun a ha => keep a (List.mem_append_right _ ha)), g.trans (le_upd hp)⟩
  rcases List.mem_append.mp z with z | z
  · exact hF z
  · exact hN z
/-- any object that no root names -/
theorem SR.newX {p : Addr} {o : HO} (h : SR K Gf N H rs) (hp : H p = none) : SR K Gf N (upd H p o) rs := by
  obtain ⟨n, F, nd, r, g⟩ := h
  have hF : p ∉ F := fun z => by
    obtain ⟨u, e⟩ := r.dom p z
    rw [hp] at e; cases e
  exact ⟨n, F, nd, r.mono (le_upd hp) fun a ha => upd_ne fun z => hF (z ▸ ha), g.trans (le_upd hp)⟩
theorem SR.newO {p : Addr} {c : Str} {dx : Addr} (h : SR K Gf N H rs) (hp : H p = none) : SR K Gf N (upd H p (.ins (He.ga K c) dx [])) (tmp (.ref p) (.obj .own c [] []) :: rs) := by
  obtain ⟨n, F, nd, r, g⟩ := h
  have hF : p ∉ F := fun z => by
    obtain ⟨o, e⟩ := r.dom p z
    rw [hp] at e; cases e
  have le : Le (hid (F ++ N) H) (hid ((p :: []) ++ F ++ N) (upd H p (.ins (He.ga K c) dx []))) := fun a u e => by
    obtain ⟨x, y⟩ := hid_some.mp e
    have hne := ne_of_none y hp
    exact hid_some.mpr ⟨by simp only [List.cons_append, List.nil_append, List.mem_cons, not_or]; exact ⟨hne, x⟩, by rw [upd_ne hne]; exact y⟩
  refine ⟨n, (p :: []) ++ F, List.nodup_cons.mpr ⟨hF, nd⟩, RepO.cons (.objO (ns := []) (vs := []) upd_same rfl .nil) (r.mono le fun a ha => upd_ne fun z => hF (z ▸ ha)), fun a u e => ?_⟩
  obtain ⟨x, y⟩ := hid_some.mp (g a u e)
  have hne := ne_of_none y hp
  exact hid_some.mpr ⟨by simp only [List.cons_append, List.nil_append, List.mem_cons, not_or]; exact ⟨hne, x⟩, by rw [upd_ne hne]; exact y⟩
theorem SR.newDic {p : Addr} (h : SR K Gf N H rs) (hp : H p = none) : SR K Gf N (upd H p (.dK [])) (tmp (.ref p) .dic :: rs) := by
  obtain ⟨n, F, nd, r, g⟩ := h
  have hF : p ∉ F := fun z => by
    obtain ⟨o, e⟩ := r.dom p z
    rw [hp] at e; cases e
  have hN := notN n g hp
  refine ⟨n, [] ++ F, nd, RepO.cons (F1 := []) (.dic (hid_some.mpr ⟨fun z => ?_, upd_same⟩)) (r.mono (le_upd hp) fun a ha => upd_ne fun z => hF (z ▸ ha)), g.trans (le_upd hp)⟩
  rcases List.mem_append.mp z with z | z
  · exact hF z
  · exact hN z
end
end FL

/-! F4: items, fields: read and written. -/
namespace FL
open PySem PySem.Spec PyProof.Rows L2
section
variable {K : PySem.W.Frag} {G H G' H' Gf : Hp} {N : List Addr} {rs rs' ts : List Root} {v : V} {d : D}

theorem Reps.get : ∀ {vs : List V} {ds : List D} {F : List Addr} {j : Nat} {x : D}, Reps K G H vs ds F → ds[j]? = some x → ∃ u A B C, vs[j]? = some u ∧ F = A ++ (B ++ C) ∧ Rep K G H u x B
  | _, _, _, _, _, .nil, h => by simp at h
  | _, _, _, 0, x, .cons (F1 := F1) (F2 := F2) r t, h => by
    simp at h; subst h
    exact ⟨_, [], F1, F2, rfl, rfl, r⟩
  | _, _, _, j + 1, x, .cons (F1 := F1) r t, h => by
    obtain ⟨u, A, B, C, e, rfl, q⟩ := Reps.get (j := j) t (by simpa using h)
    exact ⟨u, F1 ++ A, B, C, by simpa using e, by simp [List.append_assoc], q⟩
theorem Reps.get0 : ∀ {vs : List V} {ds : List D} {j : Nat} {x : D} {u : V}, Reps K G H vs ds [] → ds[j]? = some x → vs[j]? = some u → Rep K G H u x [] := fun {vs ds j x u} r h e => by
  obtain ⟨u', A, B, C, e', ef, q⟩ := r.get h
  rw [e] at e'
  cases e'
  have : B = [] := by
    have := congrArg List.length ef
    simp at this
    exact List.length_eq_zero_iff.mp (by omega)
  subst this
  exact q
/-- the item at j is replaced -/
theorem Reps.setR : ∀ {vs : List V} {ds : List D} {F Fx : List Addr} {j : Nat}, Reps K G H vs ds F → Rep K G H v d Fx → j < ds.length → ∃ A B C, F = A ++ (B ++ C) ∧ Reps K G H (vs.set j v) (ds.set j d) (A ++ (Fx ++ C))
  | _, _, _, _, _, .nil, _, h => by simp at h
  | _, _, _, Fx, 0, .cons (F1 := F1) (F2 := F2) r t, x, _ => ⟨[], F1, F2, rfl, Reps.cons (F1 := Fx) x t⟩
  | _, _, _, Fx, j + 1, .cons (F1 := F1) r t, x, h => by
    obtain ⟨A, B, C, rfl, q⟩ := Reps.setR (j := j) t x (by simpa using h)
    refine ⟨F1 ++ A, B, C, by simp [List.append_assoc], ?_⟩
    simp only [List.set_cons_succ]
    rw [List.append_assoc]
    exact .cons r q
/-- the item at j becomes shared -/
theorem Reps.shareJ : ∀ {vs : List V} {ds : List D} {F : List Addr} {j : Nat} {x : D}, Reps K G H vs ds F → ds[j]? = some x → ∃ u A B C, vs[j]? = some u ∧ F = A ++ (B ++ C) ∧
    ∀ G', Le G G' → (∀ a ∈ B, G' a = H a) → Rep K G' H u (FL.share x) [] ∧ Reps K G' H vs (ds.set j (FL.share x)) (A ++ C)
  | _, _, _, _, _, .nil, h => by simp at h
  | _, _, _, 0, x, .cons (F1 := F1) (F2 := F2) r t, h => by
    simp at h; subst h
    exact ⟨_, [], F1, F2, rfl, rfl, fun G' g hb => ⟨r.share g hb, Reps.cons (F1 := []) (r.share g hb) (t.mono g fun _ _ => rfl)⟩⟩
  | _, _, _, j + 1, x, .cons (F1 := F1) r t, h => by
    obtain ⟨u, A, B, C, e, rfl, q⟩ := Reps.shareJ (j := j) t (by simpa using h)
    refine ⟨u, F1 ++ A, B, C, by simpa using e, by simp [List.append_assoc], fun G' g hb => ?_⟩
    obtain ⟨q1, q2⟩ := q G' g hb
    refine ⟨q1, ?_⟩
    simp only [List.set_cons_succ]
    rw [List.append_assoc]
    exact .cons (r.mono g fun _ _ => rfl) q2
theorem lists_nodup {A B C X Y : List Addr} (h : (A ++ (B ++ C) ++ (X ++ Y)).Nodup) : (A ++ (X ++ C) ++ Y).Nodup := by
  have p : (A ++ (X ++ C) ++ Y).Perm ((A ++ C) ++ (X ++ Y)) := by
    have p1 : (A ++ (X ++ C)).Perm (A ++ (C ++ X)) := List.Perm.append_left _ List.perm_append_comm
    have p2 := p1.append_right Y
    refine p2.trans ?_
    rw [List.append_assoc, List.append_assoc, List.append_assoc]
  refine p.nodup_iff.mpr (h.sublist ?_)
  have s : (A ++ C).Sublist (A ++ (B ++ C)) := (List.sublist_append_right B C).append_left A
  exact s.append_right _
theorem nodup_out {A B C X : List Addr} (h : (A ++ (B ++ C) ++ X).Nodup) : (A ++ C ++ X).Nodup := by
  have s : (A ++ C).Sublist (A ++ (B ++ C)) := (List.sublist_append_right B C).append_left A
  exact h.sublist (s.append_right _)
/-- a list's content is written anew; ms: roots that go into it -/
theorem SR.writeL {a : Addr} {ds : List D} {ms : List Root} (h : SR K Gf N H (tmp (.ref a) (.lst .own ds) :: (ms ++ rs))) :
    ∃ vs, H a = some (.lst vs) ∧ vs.length = ds.length ∧ ∀ vs' ds', (∀ G F1 Fm, Reps K G H vs ds F1 → RepO K G H ms Fm → (F1 ++ Fm).Nodup → ∃ F', Reps K G H vs' ds' F' ∧ (∀ b ∈ F', b ∈ F1 ++ Fm) ∧ F'.Nodup) →
      SR K Gf N (upd H a (.lst vs')) (tmp (.ref a) (.lst .own ds') :: rs) := by
  obtain ⟨n, F, nd, r, g⟩ := h
  cases r with
  | cons x r =>
    rename_i F0 F3
    obtain ⟨Fm, F2, rfl, rm, r2⟩ := r.split
    cases x with
    | lstO e q =>
      rename_i vs F1
      refine ⟨vs, e, q.length, fun vs' ds' f => ?_⟩
      obtain ⟨ha, nd'⟩ := List.nodup_cons.mp (show (a :: (F1 ++ (Fm ++ F2))).Nodup from nd)
      rw [← List.append_assoc] at nd'
      obtain ⟨ndm, nd2, dj⟩ := List.nodup_append.mp nd'
      obtain ⟨F', q', sub, ndF⟩ := f _ F1 Fm q rm ndm
      have aF' : a ∉ F' := fun z => ha (by have := sub a z; simp only [List.mem_append] at this ⊢; rcases this with z | z <;> simp [z])
      have aF2 : a ∉ F2 := fun z => ha (by simp [z])
      have le : Le (hid ((a :: F1) ++ (Fm ++ F2) ++ N) H) (hid ((a :: F') ++ F2 ++ N) (upd H a (.lst vs'))) := fun b u e => by
        obtain ⟨x, y⟩ := hid_some.mp e
        simp only [List.cons_append, List.mem_cons, List.mem_append, not_or] at x
        refine hid_some.mpr ⟨?_, by rw [upd_ne x.1]; exact y⟩
        simp only [List.cons_append, List.mem_cons, List.mem_append, not_or]
        refine ⟨x.1, ⟨fun z => ?_, x.2.1.2.2⟩, x.2.2⟩
        rcases List.mem_append.mp (sub b z) with z | z
        · exact x.2.1.1 z
        · exact x.2.1.2.1 z
      refine ⟨n, (a :: F') ++ F2, ?_, RepO.cons (.lstO upd_same (q'.mono le fun b hb => upd_ne fun z => aF' (z ▸ hb))) (r2.mono le fun b hb => upd_ne fun z => aF2 (z ▸ hb)), fun b u e => ?_⟩
      · refine List.nodup_cons.mpr ⟨fun z => ?_, List.nodup_append.mpr ⟨ndF, nd2, fun b hb c hc e => ?_⟩⟩
        · rcases List.mem_append.mp z with z | z
          · exact aF' z
          · exact aF2 z
        · exact dj b (sub b hb) c hc e
      · obtain ⟨x, y⟩ := hid_some.mp (g b u e)
        simp only [List.cons_append, List.mem_cons, List.mem_append, not_or] at x
        refine hid_some.mpr ⟨?_, by rw [upd_ne x.1]; exact y⟩
        simp only [List.cons_append, List.mem_cons, List.mem_append, not_or]
        refine ⟨x.1, fun z => ?_, x.2.2.2⟩
        rcases List.mem_append.mp (sub b z) with z | z
        · exact x.2.1 z
        · exact x.2.2.1 z
theorem SR.writeO {a : Addr} {c : Str} {ns : List Str} {ds : List D} {ms : List Root} (h : SR K Gf N H (tmp (.ref a) (.obj .own c ns ds) :: (ms ++ rs))) :
    ∃ dx vs, H a = some (.ins (He.ga K c) dx (ns.zip vs)) ∧ ns.length = vs.length ∧ vs.length = ds.length ∧ ∀ ns' vs' ds', ns'.length = vs'.length → (∀ G F1 Fm, Reps K G H vs ds F1 → RepO K G H ms Fm → (F1 ++ Fm).Nodup → ∃ F', Reps K G H vs' ds' F' ∧ (∀ b ∈ F', b ∈ F1 ++ Fm) ∧ F'.Nodup) →
      SR K Gf N (upd H a (.ins (He.ga K c) dx (ns'.zip vs'))) (tmp (.ref a) (.obj .own c ns' ds') :: rs) := by
  obtain ⟨n, F, nd, r, g⟩ := h
  cases r with
  | cons x r =>
    rename_i F0 F3
    obtain ⟨Fm, F2, rfl, rm, r2⟩ := r.split
    cases x with
    | objO e l q =>
      rename_i dx vs F1
      refine ⟨dx, vs, e, l, q.length, fun ns' vs' ds' hl f => ?_⟩
      obtain ⟨ha, nd'⟩ := List.nodup_cons.mp (show (a :: (F1 ++ (Fm ++ F2))).Nodup from nd)
      rw [← List.append_assoc] at nd'
      obtain ⟨ndm, nd2, dj⟩ := List.nodup_append.mp nd'
      obtain ⟨F', q', sub, ndF⟩ := f _ F1 Fm q rm ndm
      have aF' : a ∉ F' := fun z => ha (by have := sub a z; simp only [List.mem_append] at this ⊢; rcases this with z | z <;> simp [z])
      have aF2 : a ∉ F2 := fun z => ha (by simp [z])
      have le : Le (hid ((a :: F1) ++ (Fm ++ F2) ++ N) H) (hid ((a :: F') ++ F2 ++ N) (upd H a (.ins (He.ga K c) dx (ns'.zip vs')))) := fun b u e => by
        obtain ⟨x, y⟩ := hid_some.mp e
        simp only [List.cons_append, List.mem_cons, List.mem_append, not_or] at x
        refine hid_some.mpr ⟨?_, by rw [upd_ne x.1]; exact y⟩
        simp only [List.cons_append, List.mem_cons, List.mem_append, not_or]
        refine ⟨x.1, ⟨fun z => ?_, x.2.1.2.2⟩, x.2.2⟩
        rcases List.mem_append.mp (sub b z) with z | z
        · exact x.2.1.1 z
        · exact x.2.1.2.1 z
      refine ⟨n, (a :: F') ++ F2, ?_, RepO.cons (.objO upd_same hl (q'.mono le fun b hb => upd_ne fun z => aF' (z ▸ hb))) (r2.mono le fun b hb => upd_ne fun z => aF2 (z ▸ hb)), fun b u e => ?_⟩
      · refine List.nodup_cons.mpr ⟨fun z => ?_, List.nodup_append.mpr ⟨ndF, nd2, fun b hb c hc e => ?_⟩⟩
        · rcases List.mem_append.mp z with z | z
          · exact aF' z
          · exact aF2 z
        · exact dj b (sub b hb) c hc e
      · obtain ⟨x, y⟩ := hid_some.mp (g b u e)
        simp only [List.cons_append, List.mem_cons, List.mem_append, not_or] at x
        refine hid_some.mpr ⟨?_, by rw [upd_ne x.1]; exact y⟩
        simp only [List.cons_append, List.mem_cons, List.mem_append, not_or]
        refine ⟨x.1, fun z => ?_, x.2.2.2⟩
        rcases List.mem_append.mp (sub b z) with z | z
        · exact x.2.1 z
        · exact x.2.2.1 z
theorem ms1 {F : List Addr} (h : RepO K G H [tmp v d] F) : Rep K G H v d F := by
  cases h with
  | cons x r => cases r; rw [List.append_nil]; exact x
theorem SR.setAt {a : Addr} {ds : List D} (h : SR K Gf N H (tmp (.ref a) (.lst .own ds) :: tmp v d :: rs)) :
    ∃ vs, H a = some (.lst vs) ∧ vs.length = ds.length ∧ ∀ j, j < ds.length → SR K Gf N (upd H a (.lst (vs.set j v))) (tmp (.ref a) (.lst .own (ds.set j d)) :: rs) := by
  obtain ⟨vs, e, l, f⟩ := SR.writeL (ms := [tmp v d]) h
  refine ⟨vs, e, l, fun j hj => f _ _ fun G F1 Fm r m nd => ?_⟩
  obtain ⟨A, B, C, rfl, q⟩ := r.setR (ms1 m) hj
  refine ⟨_, q, fun b hb => ?_, ?_⟩
  · simp only [List.mem_append] at hb ⊢
    rcases hb with z | z | z <;> simp [z]
  · have := lists_nodup (A := A) (B := B) (C := C) (X := Fm) (Y := []) (by simpa using nd)
    simpa using this
theorem SR.push {a : Addr} {ds : List D} (h : SR K Gf N H (tmp (.ref a) (.lst .own ds) :: tmp v d :: rs)) :
    ∃ vs, H a = some (.lst vs) ∧ vs.length = ds.length ∧ SR K Gf N (upd H a (.lst (vs ++ [v]))) (tmp (.ref a) (.lst .own (ds ++ [d])) :: rs) := by
  obtain ⟨vs, e, l, f⟩ := SR.writeL (ms := [tmp v d]) h
  refine ⟨vs, e, l, f _ _ fun G F1 Fm r m nd => ⟨F1 ++ Fm, ?_, fun b hb => hb, nd⟩⟩
  have := r.append (Reps.cons (ms1 m) .nil)
  simpa using this
/-! ### fields -/
theorem look_at : ∀ {ns : List Str} {ds : List D} {f : Str} {x : D}, look ns ds f = some x → ∃ j, ds[j]? = some x ∧ shareAt ns ds f = ds.set j (share x) ∧ ∀ vs : List V, vs.length = ds.length → (ns.zip vs).lookup f = vs[j]?
  | [], _, _, _, h => by simp [look] at h
  | _ :: _, [], _, _, h => by simp [look] at h
  | n :: ns, d :: ds, f, x, h => by
    unfold look at h
    by_cases e : f = n
    · rw [if_pos e] at h
      cases h
      refine ⟨0, rfl, by unfold shareAt; rw [if_pos e]; rfl, fun vs hl => ?_⟩
      cases vs with
      | nil => simp at hl
      | cons v vs =>
        simp only [List.zip_cons_cons, List.lookup]
        rw [show (f == n) = true from beq_iff_eq.mpr e]
        rfl
    · rw [if_neg e] at h
      obtain ⟨j, a, b, c⟩ := look_at h
      refine ⟨j + 1, by simpa using a, by unfold shareAt; rw [if_neg e, b]; rfl, fun vs hl => ?_⟩
      cases vs with
      | nil => simp at hl
      | cons v vs =>
        simp only [List.zip_cons_cons, List.lookup]
        rw [show (f == n) = false from beq_eq_false_iff_ne.mpr e]
        simpa using c vs (by simpa using hl)
theorem put_at : ∀ {ns : List Str} {ds : List D} {vs : List V} {f : Str} {d : D} {v : V}, ns.length = vs.length → vs.length = ds.length →
    ∃ vs', putF f v (ns.zip vs) = (putD ns ds f d).1.zip vs' ∧ (putD ns ds f d).1.length = vs'.length ∧
      ((∃ j, j < ds.length ∧ vs' = vs.set j v ∧ (putD ns ds f d).2 = ds.set j d) ∨ (vs' = vs ++ [v] ∧ (putD ns ds f d).2 = ds ++ [d]))
  | [], [], [], f, d, v, _, _ => ⟨[v], by simp [putF, putD], by simp [putD], .inr ⟨rfl, by simp [putD]⟩⟩
  | [], _ :: _, [], _, _, _, _, h => by simp at h
  | [], _, _ :: _, _, _, _, h, _ => by simp at h
  | _ :: _, _, [], _, _, _, h, _ => by simp at h
  | _ :: _, [], _ :: _, _, _, _, _, h => by simp at h
  | n :: ns, x :: ds, u :: vs, f, d, v, h1, h2 => by
    simp only [List.zip_cons_cons]
    unfold putF putD
    by_cases e : f = n
    · rw [if_pos e.symm, if_pos e]
      refine ⟨v :: vs, by simp, by simpa using h1, .inl ⟨0, by simp, rfl, rfl⟩⟩
    · rw [if_neg fun z => e z.symm, if_neg e]
      obtain ⟨vs', a, b, c⟩ := put_at (ns := ns) (ds := ds) (vs := vs) (f := f) (d := d) (v := v) (by simpa using h1) (by simpa using h2)
      refine ⟨u :: vs', by simp [a], by simpa using b, ?_⟩
      rcases c with ⟨j, hj, e1, e2⟩ | ⟨e1, e2⟩
      · exact .inl ⟨j + 1, by simpa using hj, by simp [e1], by simp [e2]⟩
      · exact .inr ⟨by simp [e1], by simp [e2]⟩
theorem SR.setF {a : Addr} {c : Str} {ns : List Str} {ds : List D} {f : Str} (h : SR K Gf N H (tmp (.ref a) (.obj .own c ns ds) :: tmp v d :: rs)) :
    ∃ dx fs, H a = some (.ins (He.ga K c) dx fs) ∧ fs.length = ds.length ∧ SR K Gf N (upd H a (.ins (He.ga K c) dx (putF f v fs))) (tmp (.ref a) (.obj .own c (putD ns ds f d).1 (putD ns ds f d).2) :: rs) := by
  obtain ⟨dx, vs, e, l1, l2, g⟩ := SR.writeO (ms := [tmp v d]) h
  obtain ⟨vs', e1, e2, e3⟩ := put_at (f := f) (d := d) (v := v) l1 l2
  refine ⟨dx, _, e, by rw [List.length_zip]; omega, ?_⟩
  rw [e1]
  refine g _ vs' _ e2 fun G F1 Fm r m nd => ?_
  rcases e3 with ⟨j, hj, q1, q2⟩ | ⟨q1, q2⟩
  · rw [q1, q2]
    obtain ⟨A, B, C, rfl, q⟩ := r.setR (ms1 m) hj
    refine ⟨_, q, fun b hb => ?_, ?_⟩
    · simp only [List.mem_append] at hb ⊢
      rcases hb with z | z | z <;> simp [z]
    · have := lists_nodup (A := A) (B := B) (C := C) (X := Fm) (Y := []) (by simpa using nd)
      simpa using this
  · rw [q1, q2]
    refine ⟨F1 ++ Fm, ?_, fun b hb => hb, nd⟩
    have := r.append (Reps.cons (ms1 m) .nil)
    simpa using this
/-! ### a container is read: the item becomes shared within it -/
/-- seqD d ds: d is a list or a tuple of ds -/
inductive SeqOf : D → List D → Prop
  | lst (f : Fl) (ds : List D) : SeqOf (.lst f ds) ds
  | tup (ds : List D) : SeqOf (.tup ds) ds
/-- what stands at a container's address -/
def Cont (K : PySem.W.Frag) (H : Hp) (a : Addr) (vs : List V) : D → Prop
  | .lst f _ => SqL K H a vs ∧ (f ≠ .frz → H a = some (.lst vs))
  | .tup _ => SqT K H a vs
  | .obj _ c ns _ => ns.length = vs.length ∧ ∃ dx, H a = some (.ins (He.ga K c) dx (ns.zip vs))
  | _ => False
def isCont : D → Bool
  | .lst _ _ => true
  | .tup _ => true
  | .obj _ _ _ _ => true
  | _ => false
theorem Rep.cont {F : List Addr} (h : Rep K G H v d F) (g : Le G H) (hc : isCont d = true) : ∃ a vs F0 F1, v = .ref a ∧ F = F0 ++ F1 ∧ Cont K H a vs d ∧ Reps K G H vs (itemsD d) F1 ∧ (∀ a ∈ F0, v = .ref a) ∧
    ∀ G' ds' F', Le G G' → Reps K G' H vs ds' F' → (F = [] → F' = []) → Rep K G' H v (setSeq d ds') (F0 ++ F') := by
  cases h with
  | non => cases hc
  | bl _ => cases hc
  | int _ => cases hc
  | str _ => cases hc
  | hole _ => cases hc
  | dic _ => cases hc
  | any _ => cases hc
  | tup s r => exact ⟨_, _, [], _, rfl, rfl, SqT.le s g, r, by simp, fun G' ds' F' g' r' _ => .tup (SqT.le s g') r'⟩
  | lstF s r => exact ⟨_, _, [], _, rfl, rfl, ⟨SqL.le s g, fun z => absurd rfl z⟩, r, by simp, fun G' ds' F' g' r' e => by rw [e rfl] at r' ⊢; exact .lstF (SqL.le s g') r'⟩
  | lstS s r => exact ⟨_, _, [], _, rfl, rfl, ⟨.inl (.inl (g _ _ s)), fun _ => g _ _ s⟩, r, by simp, fun G' ds' F' g' r' e => by rw [e rfl] at r' ⊢; exact .lstS (g' _ _ s) r'⟩
  | lstO s r => exact ⟨_, _, [_], _, rfl, rfl, ⟨.inl (.inl s), fun _ => s⟩, r, by simp, fun G' ds' F' g' r' _ => .lstO s r'⟩
  | objS s l r => exact ⟨_, _, [], _, rfl, rfl, ⟨l, _, g _ _ s⟩, r, by simp, fun G' ds' F' g' r' e => by rw [e rfl] at r' ⊢; exact .objS (g' _ _ s) l r'⟩
  | objO s l r => exact ⟨_, _, [_], _, rfl, rfl, ⟨l, _, s⟩, r, by simp, fun G' ds' F' g' r' _ => .objO s l r'⟩
theorem SR.contV (h : SR K Gf N H (tmp v d :: rs)) (hc : isCont d = true) : ∃ a vs, v = .ref a ∧ Cont K H a vs d ∧ vs.length = (itemsD d).length := by
  obtain ⟨G, F, g, r⟩ := h.head
  obtain ⟨a, vs, F0, F1, e, _, c, q, _⟩ := r.cont g hc
  exact ⟨a, vs, e, c, q.length⟩
theorem SR.pick (h : SR K Gf N H (tmp v d :: rs)) (hc : isCont d = true) : ∃ a vs, v = .ref a ∧ Cont K H a vs d ∧ vs.length = (itemsD d).length ∧
    ∀ j x, (itemsD d)[j]? = some x → ∃ u, vs[j]? = some u ∧ SR K Gf N H (tmp u (share x) :: tmp v (setSeq d ((itemsD d).set j (share x))) :: rs) := by
  obtain ⟨n, F, nd, r, g⟩ := h
  cases r with
  | cons y r =>
    rename_i Fy F2
    obtain ⟨a, vs, F0, F1, e, eF, c, q, _, mk⟩ := y.cont hid_le hc
    refine ⟨a, vs, e, c, q.length, fun j x hj => ?_⟩
    obtain ⟨u, A, B, C, eu, e1, sh⟩ := q.shareJ hj
    subst e1 eF
    have nd' : (F0 ++ (A ++ C) ++ F2).Nodup := by
      have := nodup_out (A := F0 ++ A) (B := B) (C := C) (X := F2) (by simpa [List.append_assoc] using nd)
      simpa [List.append_assoc] using this
    have hN : ∀ a ∈ N, a ∉ F0 ++ (A ++ (B ++ C)) ++ F2 := fun a ha => by
      obtain ⟨o, e⟩ := n a ha
      exact (hid_some.mp (g a o e)).1
    have le : Le (hid (F0 ++ (A ++ (B ++ C)) ++ F2 ++ N) H) (hid (F0 ++ (A ++ C) ++ F2 ++ N) H) := hid_mono fun b hb => by
      simp only [List.mem_append] at hb ⊢
      rcases hb with ((z | z | z) | z) | z <;> simp [z]
    have vis : ∀ b ∈ B, hid (F0 ++ (A ++ C) ++ F2 ++ N) H b = H b := fun b hb => by
      refine hid_out fun z => ?_
      have hbN : b ∉ N := fun w => hN b w (by simp [hb])
      have ndB := nd
      simp only [List.nodup_append, List.mem_append] at ndB
      simp only [List.mem_append] at z
      rcases z with ((z | z | z) | z) | z
      · exact ndB.1.2.2 b z b (.inr (.inl hb)) rfl
      · exact ndB.1.2.1.2.2 b z b (.inl hb) rfl
      · exact ndB.1.2.1.2.1.2.2 b hb b z rfl
      · exact ndB.2.2 b (.inr (.inr (.inl hb))) b z rfl
      · exact hbN z
    obtain ⟨q1, q2⟩ := sh _ le vis
    refine ⟨u, eu, n, F0 ++ (A ++ C) ++ F2, nd', RepO.cons (F1 := []) q1 (RepO.cons (mk _ _ _ le q2 fun z => ?_) (r.mono le fun _ _ => rfl)), g.trans (hid_mono fun b hb => ?_)⟩
    · have := congrArg List.length z
      simp at this
      apply List.length_eq_zero_iff.mp
      simp [this]
    · simp only [List.mem_append] at hb ⊢
      rcases hb with (z | z | z) | z <;> simp [z]
/-- the items of a shared container as roots of their own -/
theorem SR.items (h : SR K Gf N H (tmp v d :: rs)) (hs : share d = d) (hc : isCont d = true) : ∃ a vs, v = .ref a ∧ Cont K H a vs d ∧ vs.length = (itemsD d).length ∧ SR K Gf N H (tmps vs (itemsD d) ++ tmp v d :: rs) := by
  obtain ⟨n, F, nd, r, g⟩ := h
  cases r with
  | cons y r =>
    rename_i Fy F2
    have e := y.sharedF hs
    subst e
    obtain ⟨a, vs, F0, F1, e, eF, c, q, _, mk⟩ := y.cont hid_le hc
    have e0 : F1 = [] := by
      have := congrArg List.length eF
      simp at this
      exact List.length_eq_zero_iff.mp (by omega)
    subst e0
    exact ⟨a, vs, e, c, q.length, n, [] ++ ([] ++ F2), nd, (reps_tmps q).append (RepO.cons (F1 := []) y r), g⟩
theorem Reps.cons0 {vs : List V} {ds : List D} (r : Reps K G H (v :: vs) (d :: ds) []) : Rep K G H v d [] ∧ Reps K G H vs ds [] := by
  have gen : ∀ F, Reps K G H (v :: vs) (d :: ds) F → F = [] → Rep K G H v d [] ∧ Reps K G H vs ds [] := by
    intro F r e
    cases r with
    | cons x t =>
      obtain ⟨e1, e2⟩ := List.append_eq_nil_iff.mp e
      rw [e1] at x; rw [e2] at t
      exact ⟨x, t⟩
  exact gen _ r rfl
theorem Reps.drop0 : ∀ {vs : List V} {ds : List D} (n : Nat), Reps K G H vs ds [] → Reps K G H (vs.drop n) (ds.drop n) []
  | vs, ds, 0, r => by simpa using r
  | [], [], n + 1, r => by simpa using r
  | _ :: _, [], n + 1, r => by cases r
  | [], _ :: _, n + 1, r => by cases r
  | v :: vs, d :: ds, n + 1, r => by simpa using Reps.drop0 n r.cons0.2
theorem Reps.take0 : ∀ {vs : List V} {ds : List D} (n : Nat), Reps K G H vs ds [] → Reps K G H (vs.take n) (ds.take n) []
  | vs, ds, 0, r => by simpa using Reps.nil
  | [], [], n + 1, r => by simpa using r
  | _ :: _, [], n + 1, r => by cases r
  | [], _ :: _, n + 1, r => by cases r
  | v :: vs, d :: ds, n + 1, r => by simpa using Reps.cons (F1 := []) r.cons0.1 (Reps.take0 n r.cons0.2)
end
end FL

/-! F5: the operations, by values. -/
namespace FL
open PySem PySem.Spec PyProof.Rows L2
section
variable {K : PySem.W.Frag} {G H G' H' Gf : Hp} {N : List Addr} {rs rs' ts : List Root} {v w : V} {d e : D}
/-! ### scalars -/
theorem SR.isInt {i : Int} (h : SR K Gf N H (tmp v (.int i) :: rs)) : v = .int i := by
  obtain ⟨_, _, _, r⟩ := h.head; cases r; rfl
theorem SR.isBl {b : Bool} (h : SR K Gf N H (tmp v (.bl b) :: rs)) : v = .bl b := by
  obtain ⟨_, _, _, r⟩ := h.head; cases r; rfl
theorem SR.isStr {x : Str} (h : SR K Gf N H (tmp v (.str x) :: rs)) : v = .str x := by
  obtain ⟨_, _, _, r⟩ := h.head; cases r; rfl
theorem SR.isNon (h : SR K Gf N H (tmp v .non :: rs)) : v = .non := by
  obtain ⟨_, _, _, r⟩ := h.head; cases r; rfl
theorem SR.dropMid {r r' : Root} (h : SR K Gf N H (r :: r' :: rs)) : SR K Gf N H (r :: rs) := h.swap2.drop

/-- what a binary operation by values must do -/
def Op2 (K : PySem.W.Frag) (r : R2) (f : D → D → Option D) : Prop := ∀ {Gf : Hp} {N : List Addr} {rs : List Root} {v w : V} {dv dw d : D} {H : Hp} {Q : VK},
  SR K Gf N H (tmp w dw :: tmp v dv :: rs) → f dv dw = some d → (∀ u H', SR K Gf N H' (tmp u d :: rs) → Q u H') → r v w H Q
def ror (r r' : R2) : R2 := fun x y H Q => r x y H Q ∨ r' x y H Q
theorem OpR.or {X : Cx} {f : Value → Value → Sem Value} {r r' : R2} (h : OpR X f r) (h' : OpR X f r') : OpR X f (ror r r') := fun pins s σ H x y v u Q I rx ry q => q.elim (h pins s σ H x y v u Q I rx ry) (h' pins s σ H x y v u Q I rx ry)

/-! ### lists -/
theorem tmps_append : ∀ {vs ws : List V} {xs ys : List D}, vs.length = xs.length → tmps (vs ++ ws) (xs ++ ys) = tmps vs xs ++ tmps ws ys
  | [], _, [], _, _ => rfl
  | v :: vs, ws, x :: xs, ys, h => by simp [tmps, tmps_append (vs := vs) (xs := xs) (by simpa using h)]
  | [], _, _ :: _, _, h => by simp at h
  | _ :: _, _, [], _, h => by simp at h
theorem share_lst {f : Fl} {xs : List D} : share (.lst f xs) = .lst f.sh (shares xs) := by simp [share]
theorem share_tup {xs : List D} : share (.tup xs) = .tup (shares xs) := by simp [share]
theorem sh_frz {f : Fl} (h : f ≠ .frz) : f.sh ≠ .frz := by cases f <;> simp_all [Fl.sh]
/-- one container's items -/
theorem SR.items1 (h : SR K Gf N H (tmp v d :: rs)) (hc : isCont d = true) : ∃ a vs, v = .ref a ∧ Cont K H a vs d ∧ vs.length = (itemsD d).length ∧ SR K Gf N H (tmps vs (shares (itemsD d)) ++ rs) := by
  have h1 := h.share1
  have hc' : isCont (share d) = true := by cases d <;> simp_all [share, isCont]
  obtain ⟨a, vs, e, c, l, h2⟩ := h1.items (share_share d) hc'
  have h3 := h2.toFront.drop
  have ei : itemsD (share d) = shares (itemsD d) := by cases d <;> simp [share, itemsD, shares]
  rw [ei] at h3 l
  refine ⟨a, vs, e, ?_, by rw [l, shares_len], h3⟩
  cases d with
  | lst f xs => rw [share_lst] at c; exact ⟨c.1, fun z => c.2 (sh_frz z)⟩
  | tup xs => rw [share_tup] at c; exact c
  | obj o cc ns xs => simp only [share] at c; exact c
  | _ => cases hc
/-- two lists' items side by side -/
theorem SR.items2 {f g : Fl} {xs ys : List D} (h : SR K Gf N H (tmp w (.lst g ys) :: tmp v (.lst f xs) :: rs)) :
    ∃ a b vs ws, v = .ref a ∧ w = .ref b ∧ Cont K H a vs (.lst f xs) ∧ Cont K H b ws (.lst g ys) ∧ vs.length = xs.length ∧ ws.length = ys.length ∧ SR K Gf N H (tmps (vs ++ ws) (shares xs ++ shares ys) ++ rs) := by
  obtain ⟨a, vs, ea, ca, la, h1⟩ := h.swap2.items1 rfl
  obtain ⟨b, ws, eb, cb, lb, h2⟩ := (h1.toFront).items1 rfl
  have la' : vs.length = xs.length := la
  have lb' : ws.length = ys.length := lb
  refine ⟨a, b, vs, ws, ea, eb, ca, cb, la', lb', ?_⟩
  rw [tmps_append (by rw [la']; exact (shares_len xs).symm)]
  exact h2.perm (by rw [← List.append_assoc]; exact (List.perm_append_comm).append_right _)
theorem dbl_len {α β : Type} {a b : List α} {c d : List β} (h1 : a.length = c.length) (h2 : b.length = d.length) : (a ++ b).length = (c ++ d).length := by simp [h1, h2]

/-! ### binary operations -/
def CFd (i j : Int) : Prop := j ≠ 0 ∧ (j.natAbs.log2 < 9000 ∨ i.natAbs.log2 < 13530)
theorem noPylong_num {x y : Int} (h : x.natAbs.log2 < 13530) : Builtin.divisionGoesByPylong x y = false := by
  show (decide ((if y == 0 then 0 else y.natAbs.log2 / 30 + 1) > 300) && decide ((if x == 0 then 0 else x.natAbs.log2 / 30 + 1) > (if y == 0 then 0 else y.natAbs.log2 / 30 + 1) + 150)) = false
  have key : (if x == 0 then 0 else x.natAbs.log2 / 30 + 1) ≤ 451 := by
    by_cases hx : (x == 0) = true
    · rw [if_pos hx]; exact Nat.zero_le _
    · rw [if_neg hx]; omega
  generalize (if x == 0 then 0 else x.natAbs.log2 / 30 + 1) = a at *
  generalize (if y == 0 then 0 else y.natAbs.log2 / 30 + 1) = b at *
  by_cases h : b > 300
  · rw [decide_eq_false (p := a > b + 150) (by omega), Bool.and_false]
  · rw [decide_eq_false h, Bool.false_and]
theorem noPylong_or {x y : Int} (h : y.natAbs.log2 < 9000 ∨ x.natAbs.log2 < 13530) : Builtin.divisionGoesByPylong x y = false := h.elim PyProof.noPylong_of_log2 noPylong_num
theorem op_fdivA {X : Cx} : OpR X (binaryOp .FloorDiv) (rI CFd fun i j => .int (i.fdiv j)) := opI fun i j _ _ _ _ _ hc q => floordiv_int hc.1 q (.inl (noPylong_or hc.2))
def CPw (i j : Int) : Prop := 0 ≤ j ∧ j ≤ 1000000 ∧ (i.natAbs < 2 ^ 64 ∨ (i.natAbs.log2 < 1000 ∧ j ≤ 1000))
theorem pow_bits {a n : Int} (h : CPw a n) : (Builtin.Int.intBits a : Int) * n ≤ 2 ^ 27 := by
  obtain ⟨h0, h1, h2 | ⟨h2, h3⟩⟩ := h
  · exact bits_mul_le h2 h0 h1
  · have hb : Builtin.Int.intBits a ≤ 1000 := by
      unfold Builtin.Int.intBits
      split <;> omega
    have : (Builtin.Int.intBits a : Int) * n ≤ 1000 * n := Int.mul_le_mul_of_nonneg_right (by omega) h0
    omega
theorem op_powA {X : Cx} : OpR X (binaryOp .Pow) (rI CPw fun i j => .int (i ^ j.toNat)) := opI fun _ _ _ _ _ _ _ hc q => pow_int hc.1 (pow_bits hc) q
theorem op_mulA {X : Cx} : OpR X (binaryOp .Mult) (rI IntMulOk fun i j => .int (i * j)) := opI fun _ _ _ _ _ _ _ hc q => mul_int q hc
theorem tuple_mul1 (l : Addr) (items : Array Value) (n : Nat) (sl : Array (Option Value)) (dd : Option Addr) (x : Int) (u : Tok) (c0 : (decide (x < -(2 ^ 63)) || decide (x ≥ 2 ^ 63)) = false) (c1 : (items.isEmpty || x == 1) = true) :
    Meets (Builtin.«tuple.__mul__» ⟨[.ref l, .int x u], []⟩) (fun _ R s => s.heap.get? l = some { cls := .type "tuple", dict := dd, data := .seq items n, slots := sl } ∧ R (.ok (.ret (Value.ref l))) s) :=
  .of_wp fun prog w A R s h => by
    obtain ⟨hp, g, d, tk, os⟩ := s
    obtain ⟨hl, h⟩ := h
    have f1 := AutoSeq1.idx_int
    wp_walk using wpAny_loadPart' hl
    repeat (first
      | (refine wpAny_ite_false (decide_eq_false (by rw [c0]; exact Bool.false_ne_true)) ?_; wp_walk using wpAny_loadPart' hl)
      | (refine wpAny_ite_true (decide_eq_true (by rw [c1])) ?_; wp_walk using wpAny_loadPart' hl))
    exact ⟨_, rfl, h⟩
theorem tuple_mul0 (l : Addr) (items : Array Value) (n : Nat) (sl : Array (Option Value)) (dd : Option Addr) (x : Int) (u : Tok) (c0 : (decide (x < -(2 ^ 63)) || decide (x ≥ 2 ^ 63)) = false) (c1 : (items.isEmpty || x == 1) = false) (c2 : (decide (x ≤ 0) || items.isEmpty) = true) :
    Meets (Builtin.«tuple.__mul__» ⟨[.ref l, .int x u], []⟩) (fun _ R s => s.heap.get? l = some { cls := .type "tuple", dict := dd, data := .seq items n, slots := sl } ∧
      R (.ok (.ret (Value.ref s.heap.objs.size))) { s with heap := s.heap.push { cls := Value.type "tuple", data := Data.seq #[] }, toks := s.toks }) :=
  .of_wp fun prog w A R s h => by
    obtain ⟨hp, g, d, tk, os⟩ := s
    obtain ⟨hl, h⟩ := h
    have f1 := AutoSeq1.idx_int
    wp_walk using wpAny_loadPart' hl
    repeat (first
      | (refine wpAny_ite_false (decide_eq_false (by rw [c0]; exact Bool.false_ne_true)) ?_; wp_walk using wpAny_loadPart' hl)
      | (refine wpAny_ite_false (decide_eq_false (by rw [c1]; exact Bool.false_ne_true)) ?_; wp_walk using wpAny_loadPart' hl)
      | (refine wpAny_ite_true (decide_eq_true (by rw [c2])) ?_; wp_walk using wpAny_loadPart' hl)
      | (refine wpAny_ite_false (decide_eq_false (Nat.not_lt.mpr (Nat.zero_le _))) ?_; wp_walk using wpAny_loadPart' hl))
    exact ⟨_, rfl, h⟩
def rRepA (K : PySem.W.Frag) : R2 := fun x y H Q => ∃ l k xs, x = .ref l ∧ y = .int k ∧ SqT K H l xs ∧ xs ≠ [] ∧ 0 ≤ k ∧ k ≤ 1000 ∧ xs.length ≤ 1000 ∧ (k = 1 → Q (.ref l) H) ∧ (k ≠ 1 → ∀ p, H p = none → Q (.ref p) (upd H p (.tup (List.replicate k.toNat xs).flatten)))
theorem op_repA {X : Cx} : OpR X (binaryOp .Mult) (rRepA X.K) := by
  intro pins s σ H x y v u Q I rx ry h
  obtain ⟨l, k, xs, rfl, rfl, hT, hne, h1, h2, hz, q1, q⟩ := h
  by_cases hk : k = 1
  · cases rx
    obtain ⟨t, rfl⟩ := ry
    obtain ⟨its, r, ⟨⟨cls, dd, data, sl⟩, ho, hc, n, hd⟩, hs⟩ := I.tuple hT
    simp only at hc hd
    subst hc hd
    refine wpAny_binaryOp_repeat_ref (T := "tuple") (U := "int") (by decide) ⟨_, ho, rfl⟩ (fun s' => typeIs_int s' k t) noFill_tuple_mul F.fills_int_mul F.slot_int_rmul repeat_tuple F.slot_int_index.lookup
      (call_meets F.slot_int_rmul (typeIs_int s k t) F.entry_int_rmul (F.args_int_rmul_2 _ _) (int_rmul_tuple k t l its.toArray n dd sl)
        ⟨ho, rfl, ⟨_, ho, rfl⟩, call_meets F.slot_tuple_mul ⟨_, ho, rfl⟩ F.entry_tuple_mul (F.args_tuple_mul_2 _ _) (tuple_mul1 l its.toArray n sl dd k t (by subst hk; rfl) (by subst hk; simp)) ⟨ho, ?_⟩⟩)
    exact ⟨.ref l, H, I, rfl, q1 hk⟩
  · by_cases h0 : k = 0
    · cases rx
      obtain ⟨t, rfl⟩ := ry
      obtain ⟨its, r, ⟨⟨cls, dd, data, sl⟩, ho, hc, n, hd⟩, hs⟩ := I.tuple hT
      simp only at hc hd
      subst hc hd
      have hi : its.toArray.isEmpty = false := by
        have hle : its.length = xs.length := r.length.symm
        cases its with
        | nil => exact absurd (List.eq_nil_of_length_eq_zero hle.symm) hne
        | cons a b => rfl
      refine wpAny_binaryOp_repeat_ref (T := "tuple") (U := "int") (by decide) ⟨_, ho, rfl⟩ (fun s' => typeIs_int s' k t) noFill_tuple_mul F.fills_int_mul F.slot_int_rmul repeat_tuple F.slot_int_index.lookup
        (call_meets F.slot_int_rmul (typeIs_int s k t) F.entry_int_rmul (F.args_int_rmul_2 _ _) (int_rmul_tuple k t l its.toArray n dd sl)
          ⟨ho, rfl, ⟨_, ho, rfl⟩, call_meets F.slot_tuple_mul ⟨_, ho, rfl⟩ F.entry_tuple_mul (F.args_tuple_mul_2 _ _) (tuple_mul0 l its.toArray n sl dd k t (by subst h0; rfl) (by subst h0; rw [hi]; rfl) (by subst h0; rfl)) ⟨ho, ?_⟩⟩)
      subst h0
      refine ⟨.ref s.heap.objs.size, _, I.laid (t' := s.toks) (o := .tup []) (fun b ob q => Heap.get?_push_of_some _ q) (Nat.le_refl _) ?_, rfl, q hk _ (I.hok.fresh (Nat.le_refl _))⟩
      exact ⟨Nat.zero_le _, [], .nil, IsTup.new _ _⟩
    · exact op_repT pins s σ H _ _ v u Q I rx ry ⟨l, k, xs, rfl, rfl, hT, hne, by omega, h2, hz, q hk⟩
def rB (K : PySem.W.Frag) : BOp → R2
  | .add => ror (rI0 fun i j => .int (i + j)) (ror rCat (rCatA K))
  | .sub => rI0 fun i j => .int (i - j)
  | .mul => ror (rI IntMulOk fun i j => .int (i * j)) (ror rRep (rRepA K))
  | .fdiv => rI CFd fun i j => .int (i.fdiv j)
  | .mod => rI (fun _ j => 0 < j) fun i j => .int (i % j)
  | .pow => rI CPw fun i j => .int (i ^ j.toNat)
def astB : BOp → Operator
  | .add => .Add
  | .sub => .Sub
  | .mul => .Mult
  | .fdiv => .FloorDiv
  | .mod => .Mod
  | .pow => .Pow
theorem opr_B {X : Cx} (op : BOp) : OpR X (binaryOp (astB op)) (rB X.K op) := by
  cases op with
  | add => exact .or op_add (.or op_cat op_catA)
  | sub => exact op_sub
  | mul => exact .or op_mulA (.or op_rep op_repA)
  | fdiv => exact op_fdivA
  | mod => exact op_mod
  | pow => exact op_powA
theorem mulOk_ok {a b : Int} (h : mulOk a b = true) : IntMulOk a b := by
  unfold mulOk at h
  simp only [Bool.or_eq_true, decide_eq_true_eq] at h
  rcases h with (h | h) | h
  · exact .of_left (intBits_le_64 (by omega) (by omega))
  · exact .of_right (intBits_le_64 (by omega) (by omega))
  · exact CMulW.ok h
theorem rep_flat : ∀ (k : Nat) {vs : List V} {xs : List D}, Reps K G H vs xs [] → Reps K G H (List.replicate k vs).flatten (List.replicate k xs).flatten []
  | 0, _, _, _ => by simpa using Reps.nil
  | k + 1, _, _, r => by
    simp only [List.replicate_succ, List.flatten_cons]
    exact Reps.append (F := []) (F' := []) r (rep_flat k r)
theorem SR.itemsRep (h : SR K Gf N H (tmp v d :: rs)) (hc : isCont d = true) {vs : List V} {a : Addr} (ev : v = .ref a) (hC : Cont K H a vs d) (f : List V → List V) (g : List D → List D)
    (hfg : ∀ G vs xs, Reps K G H vs xs [] → Reps K G H (f vs) (g xs) []) : ∃ vs', Cont K H a vs' d ∧ vs'.length = (itemsD d).length ∧ SR K Gf N H (tmps (f vs') (g (shares (itemsD d))) ++ rs) ∧ (f vs').length = (g (shares (itemsD d))).length := by
  have h1 := h.share1
  have hc' : isCont (share d) = true := by cases d <;> simp_all [share, isCont]
  obtain ⟨n, F, nd, r, q⟩ := h1
  cases r with
  | cons y r =>
    rename_i Fy F2
    have e := y.sharedF (share_share d)
    subst e
    obtain ⟨a', vs', F0, F1, e', eF, c, qq, _, mk⟩ := y.cont hid_le hc'
    have e0 : F1 = [] := (List.append_eq_nil_iff.mp eF.symm).2
    subst e0
    rw [ev] at e'
    cases e'
    have ei : itemsD (share d) = shares (itemsD d) := by cases d <;> simp [share, itemsD, shares]
    rw [ei] at qq
    refine ⟨vs', ?_, by rw [qq.length, shares_len], ⟨n, [] ++ F2, nd, (reps_tmps (hfg _ _ _ qq)).append r, q⟩, (hfg _ _ _ qq).length⟩
    cases d with
    | lst f xs => rw [share_lst] at c; exact ⟨c.1, fun z => c.2 (sh_frz z)⟩
    | tup xs => rw [share_tup] at c; exact c
    | obj o cc ns xs => simp only [share] at c; exact c
    | _ => cases hc
theorem snd_B (op : BOp) : Op2 K (rB K op) (binD op) := by
  intro Gf N rs v w dv dw d H Q h e q
  cases op with
  | add =>
    cases dv <;> cases dw <;> simp only [binD, reduceCtorEq] at e
    · rename_i i j
      cases e
      exact .inl ⟨i, j, h.swap2.isInt, h.isInt, q _ _ (h.drop.drop.flat (.int _))⟩
    · rename_i xs ys
      split at e
      · rename_i hc
        cases e
        obtain ⟨a, vs, ea, ca, la, h1⟩ := h.swap2.items1 rfl
        obtain ⟨b, ws, eb, cb, lb, h2⟩ := (h1.toFront).items1 rfl
        have la' : vs.length = xs.length := la
        have lb' : ws.length = ys.length := lb
        have hh : SR K Gf N H (tmps (vs ++ ws) (shares xs ++ shares ys) ++ rs) := by
          rw [tmps_append (by rw [la']; exact (shares_len xs).symm)]
          exact h2.perm (by rw [← List.append_assoc]; exact (List.perm_append_comm).append_right _)
        have ll : (vs ++ ws).length = (shares xs ++ shares ys).length := dbl_len (by rw [la', shares_len]) (by rw [lb', shares_len])
        refine .inr (.inr ⟨a, b, vs, ws, ea, eb, ca, cb, by rw [la', lb', sizeLine_eq]; exact hc, fun ez => ?_, fun _ ez => ?_, fun _ _ p hp => q _ _ (hh.newT ll hp)⟩)
        · -- () + ys is ys
          have ex : xs = [] := List.eq_nil_of_length_eq_zero (by rw [← la', ez]; rfl)
          have := h.share1
          rw [share_tup] at this
          subst ex
          rw [← eb]
          exact q _ _ (by simpa [shares] using this.dropMid)
        · have ex : ys = [] := List.eq_nil_of_length_eq_zero (by rw [← lb', ez]; rfl)
          have := h.swap2.share1
          rw [share_tup] at this
          subst ex
          rw [← ea]
          exact q _ _ (by simpa [shares] using this.dropMid)
      · cases e
    · rename_i f xs g ys
      split at e
      · rename_i hc
        cases e
        obtain ⟨a, b, vs, ws, ea, eb, ca, cb, la, lb, hh⟩ := h.items2
        refine .inr (.inl ⟨a, b, vs, ws, ea, eb, ca.2 hc.1, cb.2 hc.2.1, by rw [la, lb, sizeLine_eq]; exact hc.2.2, fun p hp => q _ _ (hh.newL ?_ hp)⟩)
        simp [la, lb, shares_len]
      · cases e
  | sub =>
    cases dv <;> cases dw <;> simp only [binD, reduceCtorEq] at e
    rename_i i j
    cases e
    exact ⟨i, j, h.swap2.isInt, h.isInt, q _ _ (h.drop.drop.flat (.int _))⟩
  | mul =>
    cases dv <;> cases dw <;> simp only [binD, reduceCtorEq] at e
    · rename_i i j
      split at e
      · rename_i hc
        cases e
        exact .inl ⟨i, j, h.swap2.isInt, h.isInt, mulOk_ok hc, q _ _ (h.drop.drop.flat (.int _))⟩
      · cases e
    · rename_i xs k
      split at e
      · rename_i hc
        cases e
        have hk := h.isInt
        obtain ⟨a, vs, ea, ca, la⟩ := h.drop.contV rfl
        obtain ⟨vs', ca', lv, hh, ll⟩ := h.drop.itemsRep rfl ea ca (fun l => (List.replicate k.toNat l).flatten) (fun l => (List.replicate k.toNat l).flatten) fun G vs xs r => rep_flat k.toNat r
        have la' : vs'.length = xs.length := lv
        refine .inr (.inr ⟨a, k, vs', ea, hk, ca', fun z => hc.1 (List.eq_nil_of_length_eq_zero (by rw [← la', z]; rfl)), hc.2.1, hc.2.2.1, by rw [la']; exact hc.2.2.2, fun ek => ?_, fun _ p hp => q _ _ (hh.newT ll hp)⟩)
        subst ek
        have := h.drop.share1
        rw [share_tup, ea] at this
        exact q _ _ (by simpa using this)
      · cases e
    · rename_i f xs k
      split at e
      · rename_i hc
        cases e
        have hk := h.isInt
        obtain ⟨a, vs, ea, ca, la⟩ := h.drop.contV rfl
        obtain ⟨vs', ca', lv, hh, ll⟩ := h.drop.itemsRep rfl ea ca (fun l => (List.replicate k.toNat l).flatten) (fun l => (List.replicate k.toNat l).flatten) fun G vs xs r => rep_flat k.toNat r
        have hl := ca'.2 hc.1
        have h0 := ca.2 hc.1
        have hvv : vs' = vs := HO.lst.inj (Option.some.inj (hl.symm.trans h0))
        have la' : vs'.length = xs.length := by rw [hvv]; exact la
        exact .inr (.inl ⟨a, k, vs', ea, hk, hl, hc.2.1, hc.2.2.1, by rw [la', sizeLine_eq]; exact hc.2.2.2, fun p hp => q _ _ (hh.newL ll hp)⟩)
      · cases e
  | fdiv =>
    cases dv <;> cases dw <;> simp only [binD, reduceCtorEq] at e
    rename_i i j
    split at e
    · rename_i hc
      cases e
      refine ⟨i, j, h.swap2.isInt, h.isInt, ⟨by omega, hc.2⟩, ?_⟩
      show Q (.int (i.fdiv j)) H
      rw [Int.fdiv_eq_ediv_of_nonneg i (b := j) (by omega)]
      exact q _ _ (h.drop.drop.flat (.int _))
    · split at e
      · rename_i hc
        cases e
        exact ⟨i, j, h.swap2.isInt, h.isInt, ⟨by omega, hc.2⟩, q _ _ (h.drop.drop.flat (.int _))⟩
      · cases e
  | mod =>
    cases dv <;> cases dw <;> simp only [binD, reduceCtorEq] at e
    rename_i i j
    split at e
    · rename_i hc
      cases e
      exact ⟨i, j, h.swap2.isInt, h.isInt, hc, q _ _ (h.drop.drop.flat (.int _))⟩
    · cases e
  | pow =>
    cases dv <;> cases dw <;> simp only [binD, reduceCtorEq] at e
    rename_i i j
    split at e
    · rename_i hc
      cases e
      exact ⟨i, j, h.swap2.isInt, h.isInt, hc, q _ _ (h.drop.drop.flat (.int _))⟩
    · cases e
/-! ### == and its like -/
mutual
theorem Rep.dp : ∀ {v : V} {d : D} {F : List Addr} {p : PyData}, Rep K G H v d F → Le G H → toP d = some p → Dp K H v p
  | _, _, _, _, .non, _, e => by simp [toP] at e; subst e; exact .non
  | _, _, _, _, .bl b, _, e => by simp [toP] at e; subst e; exact .bl b
  | _, _, _, _, .int i, _, e => by simp [toP] at e; subst e; exact .int i
  | _, _, _, _, .str x, _, e => by simp [toP] at e; subst e; exact .str x
  | _, _, _, _, .hole v, _, e => by simp [toP] at e
  | _, _, _, _, .dic _, _, e => by simp [toP] at e
  | _, _, _, _, .any v, _, e => by simp [toP] at e
  | _, _, _, _, .tup s r, g, e => by
    simp only [toP, Option.map_eq_some_iff] at e
    obtain ⟨ps, e1, e2⟩ := e
    subst e2
    exact .tup (SqT.le s g) (Reps.dp r g e1)
  | _, _, _, _, .lstF s r, g, e => by
    simp only [toP, Option.map_eq_some_iff] at e
    obtain ⟨ps, e1, e2⟩ := e
    subst e2
    exact .lst (SqL.le s g) (Reps.dp r g e1)
  | _, _, _, _, .lstS s r, g, e => by
    simp only [toP, Option.map_eq_some_iff] at e
    obtain ⟨ps, e1, e2⟩ := e
    subst e2
    exact .lst (.inl (.inl (g _ _ s))) (Reps.dp r g e1)
  | _, _, _, _, .lstO s r, g, e => by
    simp only [toP, Option.map_eq_some_iff] at e
    obtain ⟨ps, e1, e2⟩ := e
    subst e2
    exact .lst (.inl (.inl s)) (Reps.dp r g e1)
  | _, _, _, _, .objS s l r, _, e => by simp [toP] at e
  | _, _, _, _, .objO s l r, _, e => by simp [toP] at e
theorem Reps.dp : ∀ {vs : List V} {ds : List D} {F : List Addr} {ps : List PyData}, Reps K G H vs ds F → Le G H → toP.toPs ds = some ps → DpAll K H vs ps
  | _, _, _, _, .nil, _, e => by simp [toP.toPs] at e; subst e; exact .nil
  | _, _, _, _, .cons r t, g, e => by
    simp only [toP.toPs, Option.bind_eq_some_iff, Option.map_eq_some_iff] at e
    obtain ⟨p, e1, ps, e2, e3⟩ := e
    subst e3
    exact .cons (Rep.dp r g e1) (Reps.dp t g e2)
end
def Cmp2 (K : PySem.W.Frag) (r : R2) (f : D → D → Option Bool) : Prop := ∀ {Gf : Hp} {N : List Addr} {rs : List Root} {v w : V} {dv dw : D} {b : Bool} {H : Hp} {Q : VK},
  SR K Gf N H (tmp w dw :: tmp v dv :: rs) → f dv dw = some b → Q (.bl b) H → r v w H Q
theorem eqD_some {a b : D} {r : Bool} (h : eqD a b = some r) : ∃ x y, toP a = some x ∧ toP b = some y ∧ SeqAt.shaped x = true ∧ SeqAt.shaped y = true ∧ PyData.eqv x y = r := by
  unfold eqD at h
  split at h
  · rename_i x y e1 e2
    split at h
    · rename_i hc
      rw [Bool.and_eq_true] at hc
      exact ⟨x, y, e1, e2, hc.1, hc.2, Option.some.inj h⟩
    · cases h
  · cases h
theorem snd_eq : Cmp2 K (rEqD K) eqD := by
  intro Gf N rs v w dv dw b H Q h e q
  obtain ⟨x, y, e1, e2, s1, s2, rfl⟩ := eqD_some e
  obtain ⟨G, F, g, r⟩ := h.head
  obtain ⟨G', F', g', r'⟩ := h.swap2.head
  exact ⟨x, y, r'.dp g' e1, r.dp g e2, s1, s2, q⟩
theorem snd_ne : Cmp2 K (rNeD K) (fun a b => (eqD a b).map (!·)) := by
  intro Gf N rs v w dv dw b H Q h e q
  obtain ⟨c, e0, rfl⟩ := Option.map_eq_some_iff.mp e
  obtain ⟨x, y, e1, e2, s1, s2, rfl⟩ := eqD_some e0
  obtain ⟨G, F, g, r⟩ := h.head
  obtain ⟨G', F', g', r'⟩ := h.swap2.head
  exact ⟨x, y, r'.dp g' e1, r.dp g e2, s1, s2, q⟩
theorem flat_V {F : List Addr} (r : Rep K G H v d F) (f : flatD d = true) : flatV v = true := by
  cases r <;> first | rfl | cases f
theorem flat_all : ∀ {vs : List V} {ds : List D} {F : List Addr}, Reps K G H vs ds F → ds.all flatD = true → vs.all flatV = true
  | _, _, _, .nil, _ => rfl
  | _, _, _, .cons r t, f => by
    rw [List.all_cons, Bool.and_eq_true] at f ⊢
    exact ⟨flat_V r f.1, flat_all t f.2⟩
theorem eqV_eqD {F F' : List Addr} {b : Bool} {x y : V} {dx dy : D} (rx : Rep K G H x dx F) (ry : Rep K G' H' y dy F') (fx : flatD dx = true) (fy : flatD dy = true) (e : eqD dy dx = some b) : eqV y x = b := by
  obtain ⟨p, q, e1, e2, _, _, rfl⟩ := eqD_some e
  cases rx <;> cases ry <;> first
    | (cases fx; done)
    | (cases fy; done)
    | (simp [toP] at e1 e2; subst e1 e2; simp [eqV, PyData.eqv])
theorem memD_in {F : List Addr} {x : V} {dx : D} (rx : Rep K G H x dx F) (fx : flatD dx = true) : ∀ {vs : List V} {ds : List D} {F' : List Addr} {b : Bool}, Reps K G' H' vs ds F' → ds.all flatD = true → memD dx ds = some b → inV x vs = b
  | _, _, _, _, .nil, _, e => by simp [memD] at e; subst e; rfl
  | _, _, _, b, .cons r t, f, e => by
    rw [List.all_cons, Bool.and_eq_true] at f
    unfold memD at e
    obtain ⟨c, e1, e2⟩ := Option.bind_eq_some_iff.mp e
    have hq := eqV_eqD rx r fx f.1 e1
    unfold inV
    rw [List.any_cons, hq]
    cases c with
    | true => simp at e2; subst e2; simp
    | false =>
      simp at e2
      rw [Bool.false_or]
      exact memD_in rx fx t f.2 e2
def memR (neg : Bool) (a b : D) : Option Bool := match b with
  | .lst _ ys => if flatD a = true ∧ ys.all flatD = true then (memD a ys).map (fun c => if neg then !c else c) else none
  | .tup ys => if flatD a = true ∧ ys.all flatD = true then (memD a ys).map (fun c => if neg then !c else c) else none
  | _ => none
theorem snd_mem (neg : Bool) : Cmp2 K (rIn K neg) (memR neg) := by
  intro Gf N rs v w dv dw b H Q h e q
  obtain ⟨G, F, g, r⟩ := h.head
  obtain ⟨G', F', g', r'⟩ := h.swap2.head
  unfold memR at e
  split at e
  · split at e
    · rename_i f ys hc
      obtain ⟨c, e1, e2⟩ := Option.map_eq_some_iff.mp e
      obtain ⟨a, vs, F0, F1, ev, _, ct, qq, _⟩ := r.cont g rfl
      refine ⟨a, vs, ev, .inl ct.1, flat_V r' hc.1, flat_all qq hc.2, ?_⟩
      rw [memD_in r' hc.1 qq hc.2 e1, e2]; exact q
    · cases e
  · split at e
    · rename_i ys hc
      obtain ⟨c, e1, e2⟩ := Option.map_eq_some_iff.mp e
      obtain ⟨a, vs, F0, F1, ev, _, ct, qq, _⟩ := r.cont g rfl
      refine ⟨a, vs, ev, .inr ct, flat_V r' hc.1, flat_all qq hc.2, ?_⟩
      rw [memD_in r' hc.1 qq hc.2 e1, e2]; exact q
    · cases e
  · cases e
theorem memP_some {x : D} {ys : List D} {b : Bool} (h : memP x ys = some b) : ∃ p ds, toP x = some p ∧ toP.toPs ys = some ds ∧ SeqAt.shaped p = true ∧ SeqAt.shaped (.list ds) = true ∧ (ds.any fun z => PyData.eqv z p) = b := by
  unfold memP at h
  split at h
  · split at h
    · rename_i p ds e1 e2 hc
      cases h
      rw [Bool.and_eq_true] at hc
      exact ⟨p, ds, e1, e2, hc.1, hc.2, rfl⟩
    · cases h
  · cases h
theorem snd_memP {f : Fl} {ys : List D} {v w : V} {dv : D} {b : Bool} {Q : VK} (h : SR K Gf N H (tmp w (.lst f ys) :: tmp v dv :: rs)) (e : memP dv ys = some b) : ∃ p ds, Dp K H v p ∧ Dp K H w (.list ds) ∧ SeqAt.shaped p = true ∧ SeqAt.shaped (.list ds) = true ∧ (ds.any fun z => PyData.eqv z p) = b := by
  obtain ⟨G, F, g, r⟩ := h.head
  obtain ⟨G', F', g', r'⟩ := h.swap2.head
  obtain ⟨p, ds, e1, e2, s1, s2, e3⟩ := memP_some e
  exact ⟨p, ds, r'.dp g' e1, r.dp g (by simp [toP, e2]), s1, s2, e3⟩
def rC (K : PySem.W.Frag) : COp → R2
  | .eq => rEqD K
  | .ne => rNeD K
  | .lt => rI0 fun i j => .bl (decide (i < j))
  | .le => ror (rI0 fun i j => .bl (decide (i ≤ j))) (rLeT K)
  | .gt => rI0 fun i j => .bl (decide (j < i))
  | .ge => rI0 fun i j => .bl (decide (j ≤ i))
  | .isN => ror (fun x y H Q => y = .non ∧ Q (.bl (decide (x = .non))) H) (fun x y H Q => ∃ a b, x = .bl a ∧ y = .bl b ∧ Q (.bl (decide (a = b))) H)
  | .notN => ror (fun x y H Q => y = .non ∧ Q (.bl (!decide (x = .non))) H) (fun x y H Q => ∃ a b, x = .bl a ∧ y = .bl b ∧ Q (.bl (!decide (a = b))) H)
  | .mem => ror (rIn K false) (rInD K)
  | .nomem => ror (rIn K true) (rNotInD K)
def astC : COp → CmpOp
  | .eq => .Eq
  | .ne => .NotEq
  | .lt => .Lt
  | .le => .LtE
  | .gt => .Gt
  | .ge => .GtE
  | .isN => .Is
  | .notN => .IsNot
  | .mem => .In
  | .nomem => .NotIn
theorem opr_C {X : Cx} (hu' : X.A.units + 65 < cLine) (op : COp) : OpR X (compareOp (astC op)) (rC X.K op) := by
  have hu : X.A.units + 64 < cLine := by omega
  cases op with
  | eq => exact op_eqD hu
  | ne => exact op_neD hu
  | lt => exact op_lt
  | le => exact .or op_le (op_leT (by omega))
  | gt => exact op_gt
  | ge => exact op_ge
  | isN => exact .or op_isN op_is_bl
  | notN => exact .or op_notN op_isnot_bl
  | mem => exact .or op_in_seq (op_inD hu')
  | nomem => exact .or op_notIn_seq (op_notInD hu')
theorem ints_reps0 : ∀ {vs : List V} {ds : List D} {F : List Addr} {ns : List Int}, Reps K G H vs ds F → intsD ds = some ns → vs = ns.map V.int
  | _, _, _, _, .nil, e => by simp [intsD] at e; subst e; rfl
  | _, _, _, _, .cons r t, e => by
    cases r <;> simp only [intsD, reduceCtorEq] at e
    obtain ⟨ms, e1, rfl⟩ := Option.map_eq_some_iff.mp e
    rw [ints_reps0 t e1]; rfl
theorem snd_C (op : COp) : Cmp2 K (rC K op) (cmpD op) := by
  intro Gf N rs v w dv dw b H Q h e q
  cases op with
  | eq => exact snd_eq h (by simpa [cmpD] using e) q
  | ne => exact snd_ne h (by simpa [cmpD] using e) q
  | lt =>
    cases dv <;> cases dw <;> simp only [cmpD, reduceCtorEq] at e
    cases e
    exact ⟨_, _, h.swap2.isInt, h.isInt, q⟩
  | le =>
    cases dv <;> cases dw <;> simp only [cmpD, reduceCtorEq] at e
    · cases e
      exact .inl ⟨_, _, h.swap2.isInt, h.isInt, q⟩
    · rename_i xs ys
      obtain ⟨G, F, g, r⟩ := h.head
      obtain ⟨G', F', g', r'⟩ := h.swap2.head
      obtain ⟨ns, e1, e2⟩ := Option.bind_eq_some_iff.mp e
      obtain ⟨ms, e3, e4⟩ := Option.map_eq_some_iff.mp e2
      subst e4
      cases r with
      | tup s1 q1 =>
        cases r' with
        | tup s2 q2 =>
          cases ints_reps0 q1 e3
          cases ints_reps0 q2 e1
          exact .inr ⟨_, _, ns, ms, rfl, rfl, SqT.le s2 g', SqT.le s1 g, q⟩
  | gt =>
    cases dv <;> cases dw <;> simp only [cmpD, reduceCtorEq] at e
    cases e
    exact ⟨_, _, h.swap2.isInt, h.isInt, q⟩
  | ge =>
    cases dv <;> cases dw <;> simp only [cmpD, reduceCtorEq] at e
    cases e
    exact ⟨_, _, h.swap2.isInt, h.isInt, q⟩
  | isN =>
    cases dw <;> simp only [cmpD, reduceCtorEq] at e
    · refine .inl ⟨h.isNon, ?_⟩
      obtain ⟨G', F', g', r'⟩ := h.swap2.head
      cases r' <;> first | (simp [cmpD] at e; done) | (simp [cmpD] at e; subst e; simpa using q)
    · cases dv <;> simp only [cmpD, reduceCtorEq] at e
      cases e
      exact .inr ⟨_, _, h.swap2.isBl, h.isBl, q⟩
  | notN =>
    cases dw <;> simp only [cmpD, reduceCtorEq] at e
    · refine .inl ⟨h.isNon, ?_⟩
      obtain ⟨G', F', g', r'⟩ := h.swap2.head
      cases r' <;> first | (simp [cmpD] at e; done) | (simp [cmpD] at e; subst e; simpa using q)
    · cases dv <;> simp only [cmpD, reduceCtorEq] at e
      cases e
      exact .inr ⟨_, _, h.swap2.isBl, h.isBl, q⟩
  | mem =>
    cases dw with
    | tup ys =>
      refine .inl (snd_mem false h ?_ q)
      simp only [cmpD] at e
      unfold memR
      simp only
      split at e
      · rename_i hc; rw [if_pos hc, e]; rfl
      · cases e
    | lst f ys =>
      simp only [cmpD] at e
      split at e
      · rename_i hc
        refine .inl (snd_mem false h ?_ q)
        unfold memR
        simp only
        rw [if_pos hc, e]; rfl
      · obtain ⟨p, ds, d1, d2, s1, s2, e3⟩ := snd_memP (Q := Q) h e
        exact .inr ⟨p, ds, d1, d2, s1, s2, by rw [e3]; exact q⟩
    | _ => cases dv <;> simp [cmpD] at e
  | nomem =>
    cases dw with
    | tup ys =>
      refine .inl (snd_mem true h ?_ q)
      simp only [cmpD] at e
      unfold memR
      simp only
      split at e
      · rename_i hc; rw [if_pos hc]; exact e
      · cases e
    | lst f ys =>
      simp only [cmpD] at e
      split at e
      · rename_i hc
        refine .inl (snd_mem true h ?_ q)
        unfold memR
        simp only
        rw [if_pos hc]; exact e
      · obtain ⟨c, e1, e2⟩ := Option.map_eq_some_iff.mp e
        obtain ⟨p, ds, d1, d2, s1, s2, e3⟩ := snd_memP (Q := Q) h e1
        exact .inr ⟨p, ds, d1, d2, s1, s2, by rw [e3, e2]; exact q⟩
    | _ => cases dv <;> simp [cmpD] at e
end
end FL

/-! F6: subscripts, slices, built-ins, isinstance, fields, by values. -/
namespace FL
open PySem PySem.Spec PyProof.Rows L2
section
variable {K : PySem.W.Frag} {G H G' H' Gf : Hp} {N : List Addr} {rs rs' ts : List Root} {v w : V} {d e : D}
theorem atI_of {α : Type} {xs : List α} {i : Int} {x : α} (h : atI xs i = some x) : ∃ j, ixN xs.length i = some j ∧ xs[j]? = some x := by
  unfold atI at h
  exact Option.bind_eq_some_iff.mp h
theorem atI_mk {α : Type} {xs : List α} {n : Nat} {i : Int} {j : Nat} {x : α} (hn : xs.length = n) (h : ixN n i = some j) (e : xs[j]? = some x) : atI xs i = some x := by
  unfold atI
  rw [hn, h]; exact e
theorem ixr_or {X : Cx} {r r' : R2} (h : IxR X r) (h' : IxR X r') : IxR X (ror r r') := fun a b pins s σ H x y v u Q I rx ry q z => q.elim (fun q => h a b pins s σ H x y v u Q I rx ry q z) (fun q => h' a b pins s σ H x y v u Q I rx ry q z)
def rX (K : PySem.W.Frag) : R2 := ror (rIxL K) (rIxT K)
theorem ixr_X {X : Cx} : IxR X (rX X.K) := ixr_or ix_list ix_tup
theorem snd_X : Op2 K (rX K) idxD := by
  intro Gf N rs v w dv dw d H Q h e q
  cases dw <;> cases dv <;> simp only [idxD, reduceCtorEq] at e
  · rename_i i xs
    obtain ⟨x, e1, rfl⟩ := Option.map_eq_some_iff.mp e
    obtain ⟨j, e2, e3⟩ := atI_of e1
    obtain ⟨a, vs, ev, c, l, f⟩ := h.drop.pick rfl
    obtain ⟨u, eu, hh⟩ := f j x e3
    exact .inr ⟨a, vs, i, u, ev, h.isInt, c, atI_mk l e2 eu, q _ _ hh.dropMid⟩
  · rename_i i f xs
    obtain ⟨x, e1, rfl⟩ := Option.map_eq_some_iff.mp e
    obtain ⟨j, e2, e3⟩ := atI_of e1
    obtain ⟨a, vs, ev, c, l, f⟩ := h.drop.pick rfl
    obtain ⟨u, eu, hh⟩ := f j x e3
    exact .inl ⟨a, vs, i, u, ev, h.isInt, c.1, atI_mk l e2 eu, q _ _ hh.dropMid⟩
/-- x[i] of a slot that keeps its container -/
theorem snd_XV {dv dw d dv' : D} {Q : VK} (h : SR K Gf N H (tmp w dw :: tmp v dv :: rs)) (e : idvD dv dw = some (d, dv')) (q : ∀ u, SR K Gf N H (tmp u d :: tmp v dv' :: rs) → Q u H) : rX K v w H Q := by
  cases dw <;> cases dv <;> simp only [idvD, reduceCtorEq] at e
  · rename_i i xs
    obtain ⟨j, e2, e1⟩ := Option.bind_eq_some_iff.mp e
    obtain ⟨x, e3, e4⟩ := Option.map_eq_some_iff.mp e1
    cases e4
    obtain ⟨a, vs, ev, c, l, f⟩ := h.drop.pick rfl
    obtain ⟨u, eu, hh⟩ := f j x e3
    exact .inr ⟨a, vs, i, u, ev, h.isInt, c, atI_mk l e2 eu, q _ hh⟩
  · rename_i i f xs
    obtain ⟨j, e2, e1⟩ := Option.bind_eq_some_iff.mp e
    obtain ⟨x, e3, e4⟩ := Option.map_eq_some_iff.mp e1
    cases e4
    obtain ⟨a, vs, ev, c, l, f⟩ := h.drop.pick rfl
    obtain ⟨u, eu, hh⟩ := f j x e3
    exact .inl ⟨a, vs, i, u, ev, h.isInt, c.1, atI_mk l e2 eu, q _ hh⟩
theorem snd_slc {dv d : D} {lo hi : Option Int} {Q : VK} (h : SR K Gf N H (tmp v dv :: rs)) (e : slcD dv lo hi = some d) (q : ∀ u H', SR K Gf N H' (tmp u d :: rs) → Q u H') : rSlL K v lo hi H Q := by
  cases dv <;> simp only [slcD, reduceCtorEq] at e
  rename_i f xs
  cases e
  obtain ⟨a, vs, ea, ca, la⟩ := h.contV rfl
  have hc := la
  obtain ⟨vs', ca', lv, hh, ll⟩ := h.itemsRep rfl ea ca (fun l => cutV l lo hi) (fun l => cutD l lo hi) fun G vs xs r => by
    unfold cutV cutD
    rw [r.length]
    exact (r.drop0 _).take0 _
  exact ⟨a, vs', ea, ca'.1, fun p hp => q _ _ (hh.newL ll hp)⟩
/-! ### built-ins -/
abbrev RC1 := List V → Hp → VK → Prop
def cor (r r' : RC1) : RC1 := fun xs H Q => r xs H Q ∨ r' xs H Q
theorem CallR.or {X : Cx} {f : Value} {r r' : RC1} (h : CallR X f r) (h' : CallR X f r') : CallR X f (cor r r') := fun pins s σ H xs us Q I rv q => q.elim (h pins s σ H xs us Q I rv) (h' pins s σ H xs us Q I rv)
def rBl (K : PySem.W.Frag) : Blt → RC1
  | .len => fun xs H Q => ∃ p ys, xs = [.ref p] ∧ (SqL K H p ys ∨ SqT K H p ys) ∧ Q (.int ys.length) H
  | .int => fun xs H Q => (∃ i, xs = [.int i] ∧ Q (.int i) H) ∨ ∃ k, xs = [.bl k] ∧ Q (.int (if k then 1 else 0)) H
  | .list => fun xs H Q => ∃ p ys, xs = [.ref p] ∧ (SqL K H p ys ∨ SqT K H p ys) ∧ ∀ l, H l = none → Q (.ref l) (upd H l (.lst ys))
  | .tuple => fun xs H Q => ∃ p ys, xs = [.ref p] ∧ ((SqL K H p ys ∧ ∀ l, H l = none → Q (.ref l) (upd H l (.tup ys))) ∨ (SqT K H p ys ∧ Q (.ref p) H))
  | .sum => rSum K
  | .abs => fun xs H Q => ∃ i, xs = [.int i] ∧ Q (.int (if i < 0 then -i else i)) H
  | .min2 => fun xs H Q => ∃ i j, xs = [.int i, .int j] ∧ Q (.int (if j < i then j else i)) H
  | .max2 => fun xs H Q => ∃ i j, xs = [.int i, .int j] ∧ Q (.int (if j > i then j else i)) H
  | .all => rAll K
  | .any => rAny K
  | .min1 => rMin K
  | .max1 => rMax K
def bltN : Blt → Str
  | .len => "len"
  | .int => "int"
  | .list => "list"
  | .tuple => "tuple"
  | .sum => "sum"
  | .abs => "abs"
  | .min2 => "min"
  | .max2 => "max"
  | .all => "all"
  | .any => "any"
  | .min1 => "min"
  | .max1 => "max"
def bltV : Blt → Value
  | .len => .builtin "len"
  | .int => .type "int"
  | .list => .type "list"
  | .tuple => .type "tuple"
  | .sum => .builtin "sum"
  | .abs => .builtin "abs"
  | .min2 => .builtin "min"
  | .max2 => .builtin "max"
  | .all => .builtin "all"
  | .any => .builtin "any"
  | .min1 => .builtin "min"
  | .max1 => .builtin "max"
theorem blt_boot (b : Blt) : bootBuiltins (bltN b) = some (bltV b) := by cases b <;> decide +kernel
theorem callr_B {X : Cx} (hc : X.calm = true) (b : Blt) : CallR X (bltV b) (rBl X.K b) := by
  cases b with
  | len => exact call_len_seq
  | int => exact call_int1
  | list => exact call_list_of
  | tuple => exact call_tuple_of
  | sum => exact cr_sum hc
  | abs => exact call_abs
  | min2 => exact call_min2 hc
  | max2 => exact call_max2 hc
  | all => exact cr_all hc
  | any => exact cr_any hc
  | min1 => exact cr_min hc
  | max1 => exact cr_max hc
theorem ints_reps : ∀ {vs : List V} {ds : List D} {F : List Addr} {ns : List Int}, Reps K G H vs ds F → intsD ds = some ns → vs = ns.map V.int
  | _, _, _, _, .nil, e => by simp [intsD] at e; subst e; rfl
  | _, _, _, _, .cons r t, e => by
    cases r <;> simp only [intsD, reduceCtorEq] at e
    obtain ⟨ms, e1, rfl⟩ := Option.map_eq_some_iff.mp e
    rw [ints_reps t e1]; rfl
theorem bools_reps : ∀ {vs : List V} {ds : List D} {F : List Addr} {bs : List Bool}, Reps K G H vs ds F → boolsD ds = some bs → vs = bs.map V.bl
  | _, _, _, _, .nil, e => by simp [boolsD] at e; subst e; rfl
  | _, _, _, _, .cons r t, e => by
    cases r <;> simp only [boolsD, reduceCtorEq] at e
    obtain ⟨ms, e1, rfl⟩ := Option.map_eq_some_iff.mp e
    rw [bools_reps t e1]; rfl
/-- a call by values: the arguments' roots are given up -/
def CallS (K : PySem.W.Frag) (r : RC1) (f : List D → Option D) : Prop := ∀ {Gf : Hp} {N : List Addr} {rs : List Root} {vs : List V} {ds : List D} {d : D} {H : Hp} {Q : VK},
  SR K Gf N H (tmps vs ds ++ rs) → vs.length = ds.length → f ds = some d → (∀ u H', SR K Gf N H' (tmp u d :: rs) → Q u H') → r vs H Q
theorem d1_some {f : D → Option D} {ds : List D} {d : D} (h : d1 f ds = some d) : ∃ x, ds = [x] ∧ f x = some d := by
  unfold d1 at h
  split at h
  · exact ⟨_, rfl, h⟩
  · cases h
theorem d2_some {f : D → D → Option D} {ds : List D} {d : D} (h : d2 f ds = some d) : ∃ x y, ds = [x, y] ∧ f x y = some d := by
  unfold d2 at h
  split at h
  · exact ⟨_, _, rfl, h⟩
  · cases h
theorem one_arg {vs : List V} {x : D} (h : SR K Gf N H (tmps vs [x] ++ rs)) (hl : vs.length = [x].length) : ∃ v, vs = [v] ∧ SR K Gf N H (tmp v x :: rs) := by
  match vs, hl, h with
  | [v], _, h => exact ⟨v, rfl, h⟩
theorem two_arg {vs : List V} {x y : D} (h : SR K Gf N H (tmps vs [x, y] ++ rs)) (hl : vs.length = [x, y].length) : ∃ v w, vs = [v, w] ∧ SR K Gf N H (tmp v x :: tmp w y :: rs) := by
  match vs, hl, h with
  | [v, w], _, h => exact ⟨v, w, rfl, h⟩
theorem maxI_eq : ∀ (ns : List Int) (m : Int), m ∈ ns → (∀ y, y ∈ ns → y ≤ m) → maxI ns = m
  | [], _, h, _ => by cases h
  | [a], m, h, _ => by simp only [List.mem_singleton] at h; rw [h]; rfl
  | a :: b :: t, m, h, g => by
    have ga := g a (List.mem_cons_self ..)
    simp only [maxI]
    by_cases hm : m ∈ b :: t
    · rw [maxI_eq (b :: t) m hm fun y hy => g y (List.mem_cons_of_mem _ hy)]; omega
    · rcases List.mem_cons.mp h with rfl | h2
      · have : maxI (b :: t) ≤ m := by
          have hmem : ∀ (l : List Int), l ≠ [] → maxI l ∈ l := by
            intro l
            induction l with
            | nil => intro h; exact absurd rfl h
            | cons x l ih =>
              intro _
              cases l with
              | nil => simp [maxI]
              | cons y l =>
                have := ih (by simp)
                simp only [maxI]
                rcases Int.le_total x (maxI (y :: l)) with h | h
                · rw [Int.max_eq_right h]; exact List.mem_cons_of_mem _ this
                · rw [Int.max_eq_left h]; exact List.mem_cons_self ..
          exact g _ (List.mem_cons_of_mem _ (hmem (b :: t) (by simp)))
        omega
      · exact absurd h2 hm
theorem minI_eq : ∀ (ns : List Int) (m : Int), m ∈ ns → (∀ y, y ∈ ns → m ≤ y) → minI ns = m
  | [], _, h, _ => by cases h
  | [a], m, h, _ => by simp only [List.mem_singleton] at h; rw [h]; rfl
  | a :: b :: t, m, h, g => by
    have ga := g a (List.mem_cons_self ..)
    simp only [minI]
    by_cases hm : m ∈ b :: t
    · rw [minI_eq (b :: t) m hm fun y hy => g y (List.mem_cons_of_mem _ hy)]; omega
    · rcases List.mem_cons.mp h with rfl | h2
      · have : m ≤ minI (b :: t) := by
          have hmem : ∀ (l : List Int), l ≠ [] → minI l ∈ l := by
            intro l
            induction l with
            | nil => intro h; exact absurd rfl h
            | cons x l ih =>
              intro _
              cases l with
              | nil => simp [minI]
              | cons y l =>
                have := ih (by simp)
                simp only [minI]
                rcases Int.le_total x (minI (y :: l)) with h | h
                · rw [Int.min_eq_left h]; exact List.mem_cons_self ..
                · rw [Int.min_eq_right h]; exact List.mem_cons_of_mem _ this
          exact g _ (List.mem_cons_of_mem _ (hmem (b :: t) (by simp)))
        omega
      · exact absurd h2 hm
theorem snd_Bl (b : Blt) : CallS K (rBl K b) (bltD b) := by
  intro Gf N rs vs ds d H Q h hl e q
  cases b with
  | len =>
    obtain ⟨x, rfl, z⟩ := d1_some e
    clear e
    obtain ⟨v, rfl, h⟩ := one_arg h hl
    cases x <;> simp only [lenD, reduceCtorEq] at z <;> cases z
    · obtain ⟨a, ys, rfl, c, l⟩ := h.contV rfl
      refine ⟨a, ys, rfl, .inr c, ?_⟩
      rw [l]; exact q _ _ (h.drop.flat (.int _))
    · obtain ⟨a, ys, rfl, c, l⟩ := h.contV rfl
      refine ⟨a, ys, rfl, .inl c.1, ?_⟩
      rw [l]; exact q _ _ (h.drop.flat (.int _))
  | int =>
    obtain ⟨x, rfl, z⟩ := d1_some e
    clear e
    obtain ⟨v, rfl, h⟩ := one_arg h hl
    cases x <;> simp only [intD, reduceCtorEq] at z <;> cases z
    · exact .inr ⟨_, by rw [h.isBl], q _ _ (h.drop.flat (.int _))⟩
    · exact .inl ⟨_, by rw [h.isInt], q _ _ (h.drop.flat (.int _))⟩
  | list =>
    obtain ⟨x, rfl, z⟩ := d1_some e
    clear e
    obtain ⟨v, rfl, h⟩ := one_arg h hl
    cases x <;> simp only [listD, reduceCtorEq] at z <;> cases z
    · obtain ⟨a, ys, rfl, c, l, hh⟩ := h.items1 rfl
      exact ⟨a, ys, rfl, .inr c, fun p hp => q _ _ (hh.newL (by rw [l, shares_len]) hp)⟩
    · obtain ⟨a, ys, rfl, c, l, hh⟩ := h.items1 rfl
      exact ⟨a, ys, rfl, .inl c.1, fun p hp => q _ _ (hh.newL (by rw [l, shares_len]) hp)⟩
  | tuple =>
    obtain ⟨x, rfl, z⟩ := d1_some e
    clear e
    obtain ⟨v, rfl, h⟩ := one_arg h hl
    cases x <;> simp only [tupleD, reduceCtorEq] at z <;> cases z
    · obtain ⟨a, ys, rfl, c, l⟩ := h.contV rfl
      have := h.share1
      rw [share_tup] at this
      exact ⟨a, ys, rfl, .inr ⟨c, q _ _ this⟩⟩
    · obtain ⟨a, ys, rfl, c, l, hh⟩ := h.items1 rfl
      exact ⟨a, ys, rfl, .inl ⟨c.1, fun p hp => q _ _ (hh.newT (by rw [l, shares_len]) hp)⟩⟩
  | sum =>
    obtain ⟨x, rfl, z⟩ := d1_some e
    clear e
    obtain ⟨v, rfl, h⟩ := one_arg h hl
    cases x <;> simp only [sumD, reduceCtorEq] at z
    obtain ⟨ns, e1, rfl⟩ := Option.map_eq_some_iff.mp z
    obtain ⟨G, F, g, r⟩ := h.head
    obtain ⟨a, vs, F0, F1, ev, _, ct, qq, _⟩ := r.cont g rfl
    subst ev
    have := ints_reps qq e1
    subst this
    exact ⟨a, ns, rfl, ct.1, q _ _ (h.drop.flat (.int _))⟩
  | abs =>
    obtain ⟨x, rfl, z⟩ := d1_some e
    clear e
    obtain ⟨v, rfl, h⟩ := one_arg h hl
    cases x <;> simp only [absD, reduceCtorEq] at z <;> cases z
    exact ⟨_, by rw [h.isInt], q _ _ (h.drop.flat (.int _))⟩
  | min2 =>
    obtain ⟨x, y, rfl, z⟩ := d2_some e
    clear e
    obtain ⟨v, w, rfl, h⟩ := two_arg h hl
    cases x <;> cases y <;> simp only [min2D, reduceCtorEq] at z <;> cases z
    exact ⟨_, _, by rw [h.isInt, h.swap2.isInt], q _ _ (h.drop.drop.flat (.int _))⟩
  | max2 =>
    obtain ⟨x, y, rfl, z⟩ := d2_some e
    clear e
    obtain ⟨v, w, rfl, h⟩ := two_arg h hl
    cases x <;> cases y <;> simp only [max2D, reduceCtorEq] at z <;> cases z
    exact ⟨_, _, by rw [h.isInt, h.swap2.isInt], q _ _ (h.drop.drop.flat (.int _))⟩
  | all =>
    obtain ⟨x, rfl, z⟩ := d1_some e
    clear e
    obtain ⟨v, rfl, h⟩ := one_arg h hl
    cases x <;> simp only [allD, reduceCtorEq] at z
    obtain ⟨ns, e1, rfl⟩ := Option.map_eq_some_iff.mp z
    obtain ⟨G, F, g, r⟩ := h.head
    obtain ⟨a, vs, F0, F1, ev, _, ct, qq, _⟩ := r.cont g rfl
    subst ev
    have := bools_reps qq e1
    subst this
    exact ⟨a, ns, rfl, ct.1, q _ _ (h.drop.flat (.bl _))⟩
  | any =>
    obtain ⟨x, rfl, z⟩ := d1_some e
    clear e
    obtain ⟨v, rfl, h⟩ := one_arg h hl
    cases x <;> simp only [anyD, reduceCtorEq] at z
    obtain ⟨ns, e1, rfl⟩ := Option.map_eq_some_iff.mp z
    obtain ⟨G, F, g, r⟩ := h.head
    obtain ⟨a, vs, F0, F1, ev, _, ct, qq, _⟩ := r.cont g rfl
    subst ev
    have := bools_reps qq e1
    subst this
    exact ⟨a, ns, rfl, ct.1, q _ _ (h.drop.flat (.bl _))⟩
  | min1 =>
    obtain ⟨x, rfl, z⟩ := d1_some e
    clear e
    obtain ⟨v, rfl, h⟩ := one_arg h hl
    cases x <;> simp only [min1D, reduceCtorEq] at z
    obtain ⟨ns, e1, z⟩ := Option.bind_eq_some_iff.mp z
    split at z
    · cases z
    rename_i hne
    cases z
    obtain ⟨G, F, g, r⟩ := h.head
    obtain ⟨a, vs, F0, F1, ev, _, ct, qq, _⟩ := r.cont g rfl
    subst ev
    have := ints_reps qq e1
    subst this
    exact ⟨a, ns, rfl, ct.1, List.length_pos_iff.mpr hne, fun m h1 h2 => by rw [← minI_eq ns m h1 h2]; exact q _ _ (h.drop.flat (.int _))⟩
  | max1 =>
    obtain ⟨x, rfl, z⟩ := d1_some e
    clear e
    obtain ⟨v, rfl, h⟩ := one_arg h hl
    cases x <;> simp only [max1D, reduceCtorEq] at z
    obtain ⟨ns, e1, z⟩ := Option.bind_eq_some_iff.mp z
    split at z
    · cases z
    rename_i hne
    cases z
    obtain ⟨G, F, g, r⟩ := h.head
    obtain ⟨a, vs, F0, F1, ev, _, ct, qq, _⟩ := r.cont g rfl
    subst ev
    have := ints_reps qq e1
    subst this
    exact ⟨a, ns, rfl, ct.1, List.length_pos_iff.mpr hne, fun m h1 h2 => by rw [← maxI_eq ns m h1 h2]; exact q _ _ (h.drop.flat (.int _))⟩
/-! ### isinstance -/
def biNames : List String := ["int", "bool", "str", "list", "tuple", "dict"]
theorem kit_bi {a b : String} (ha : a ∈ ["NoneType", "bool", "int", "str", "tuple", "list", "dict"]) (hb : b ∈ biNames) : kitB a b = some (decide (a = b) || (decide (a = "bool") && decide (b = "int"))) := by
  simp only [biNames, List.mem_cons, List.not_mem_nil, or_false] at ha hb
  rcases ha with rfl | rfl | rfl | rfl | rfl | rfl | rfl <;> rcases hb with rfl | rfl | rfl | rfl | rfl | rfl <;> decide +kernel
theorem Rep.ty {F : List Addr} (r : Rep K G H v d F) (g : Le G H) (hd : ∀ o c ns xs, d ≠ .obj o c ns xs) (hh : ∀ u, d ≠ .hole u) (ha : d ≠ .any) : ∃ t, TyX K H v (.type t) ∧ t ∈ ["NoneType", "bool", "int", "str", "tuple", "list", "dict"] ∧
    ∀ n, isiD d (.bi n) = some (decide (t = n) || (decide (t = "bool") && decide (n = "int"))) := by
  cases r with
  | non => exact ⟨"NoneType", .base .non, by simp, fun n => by simp [isiD, eq_comm]⟩
  | bl b => exact ⟨"bool", .base (.bl b), by simp, fun n => by simp [isiD, eq_comm]⟩
  | int i => exact ⟨"int", .base (.int i), by simp, fun n => by simp [isiD, eq_comm]⟩
  | hole u => exact absurd rfl (hh _)
  | any u => exact absurd rfl ha
  | dic s => exact ⟨"dict", .base (.dK (g _ _ s)), by simp, fun n => by simp [isiD, eq_comm]⟩
  | str x => exact ⟨"str", .base (.str x), by simp, fun n => by simp [isiD, eq_comm]⟩
  | tup s q =>
    refine ⟨"tuple", ?_, by simp, fun n => by simp [isiD, eq_comm]⟩
    rcases SqT.le s g with (h | ⟨o, h⟩) | ⟨o, its, n, h, c, _⟩
    · exact .base (.tup h)
    · exact .fTuple h
    · exact .kTuple h c
  | lstF s q =>
    refine ⟨"list", ?_, by simp, fun n => by simp [isiD, eq_comm]⟩
    rcases SqL.le s g with (h | ⟨o, h⟩) | ⟨o, its, n, h, c, _⟩
    · exact .base (.lst h)
    · exact .base (.frz h)
    · exact .kList h c
  | lstS s q => exact ⟨"list", .base (.lst (g _ _ s)), by simp, fun n => by simp [isiD, eq_comm]⟩
  | lstO s q => exact ⟨"list", .base (.lst s), by simp, fun n => by simp [isiD, eq_comm]⟩
  | objS s l q => exact absurd rfl (hd _ _ _ _)
  | objO s l q => exact absurd rfl (hd _ _ _ _)
theorem snd_isi {n : String} {b : Bool} {Q : VK} (h : SR K Gf N H (tmp v d :: rs)) (hn : n ∈ biNames) (e : isiD d (.bi n) = some b) (q : Q (.bl b) H) : rIsi K [v, .ty n] H Q := by
  obtain ⟨G, F, g, r⟩ := h.head
  have hd : ∀ o c ns xs, d ≠ .obj o c ns xs := fun o c ns xs z => by subst z; simp [isiD] at e
  have hh : ∀ u, d ≠ .hole u := fun u z => by subst z; simp [isiD] at e
  obtain ⟨t, ty, ht, f⟩ := r.ty g hd hh (fun z => by subst z; simp [isiD] at e)
  rw [f n] at e
  refine ⟨v, .ty n, .type t, .type n, b, rfl, .ty n, ty, ?_, q⟩
  exact kit_ty ((kit_bi ht hn).trans e)
/-! ### fields -/
theorem snd_fld {f : Str} {x : D} (h : SR K Gf N H (tmp v d :: rs)) (e : fldD d f = some x) : ∃ a c dx fs u, (∃ o ns xs, d = .obj o c ns xs ∧ (look ns xs f).isSome = true) ∧ v = .ref a ∧ H a = some (.ins (He.ga K c) dx fs) ∧ fs.lookup f = some u ∧ SR K Gf N H (tmp u x :: rs) := by
  cases d <;> simp only [fldD, reduceCtorEq] at e
  rename_i o c ns xs
  obtain ⟨y, e1, rfl⟩ := Option.map_eq_some_iff.mp e
  obtain ⟨j, ej, _, lk⟩ := look_at e1
  obtain ⟨a, vs, ev, ⟨l0, dx, ea⟩, l, g⟩ := h.pick rfl
  obtain ⟨u, eu, hh⟩ := g j y ej
  exact ⟨a, c, dx, _, u, ⟨o, ns, xs, rfl, by rw [e1]; rfl⟩, ev, ea, (lk vs l).trans eu, hh.dropMid⟩
theorem snd_flv {f : Str} {x d' : D} (h : SR K Gf N H (tmp v d :: rs)) (e : flvD d f = some (x, d')) : ∃ a c dx fs u, (∃ o ns xs, d = .obj o c ns xs ∧ (look ns xs f).isSome = true) ∧ v = .ref a ∧ H a = some (.ins (He.ga K c) dx fs) ∧ fs.lookup f = some u ∧ SR K Gf N H (tmp u x :: tmp v d' :: rs) := by
  cases d <;> simp only [flvD, reduceCtorEq] at e
  rename_i o c ns xs
  obtain ⟨y, e1, e2⟩ := Option.map_eq_some_iff.mp e
  cases e2
  obtain ⟨j, ej, es, lk⟩ := look_at e1
  obtain ⟨a, vs, ev, ⟨l0, dx, ea⟩, l, g⟩ := h.pick rfl
  obtain ⟨u, eu, hh⟩ := g j y ej
  refine ⟨a, c, dx, _, u, ⟨o, ns, xs, rfl, by rw [e1]; rfl⟩, ev, ea, (lk vs l).trans eu, ?_⟩
  rw [es]
  exact hh
end
end FL

/-! F7: readings of expressions. -/
namespace FL
open PySem PySem.Spec PyProof.Rows L2
def tI (K : PySem.W.Frag) (ev : Env → Option (D × Env)) : TE := fun σ H Q => ∃ Gf N ts ρ, σ.length = ρ.length ∧ SR K Gf N H (ts ++ σ.zip ρ) ∧ ∃ p, ev ρ = some p ∧ ∀ v H', SR K Gf N H' (tmp v p.1 :: (ts ++ σ.zip p.2)) → Q v H'
def tIT (K : PySem.W.Frag) (ev : Env → Option (Bool × Env)) : TT := fun σ H Q => ∃ Gf N ts ρ, σ.length = ρ.length ∧ SR K Gf N H (ts ++ σ.zip ρ) ∧ ∃ p, ev ρ = some p ∧ ∀ H', SR K Gf N H' (ts ++ σ.zip p.2) → Q p.1 H'
def tIA (K : PySem.W.Frag) (ev : Env → Option (List D × Env)) : TA := fun σ H Q => ∃ Gf N ts ρ, σ.length = ρ.length ∧ SR K Gf N H (ts ++ σ.zip ρ) ∧ ∃ p, ev ρ = some p ∧ ∀ vs H', vs.length = p.1.length → SR K Gf N H' (tmps vs p.1 ++ (ts ++ σ.zip p.2)) → Q vs H'
def tIO (K : PySem.W.Frag) (ev : Env → Option (Option Int × Env)) : TO := fun σ H Q => ∃ Gf N ts ρ, σ.length = ρ.length ∧ SR K Gf N H (ts ++ σ.zip ρ) ∧ ∃ p, ev ρ = some p ∧ ∀ H', SR K Gf N H' (ts ++ σ.zip p.2) → Q p.1 H'
/-- the environment keeps its length -/
def Ln {α : Type} (ev : Env → Option (α × Env)) : Prop := ∀ ρ p, ev ρ = some p → p.2.length = ρ.length
structure PX (X : Cx) (e : Expr) (ev : Env → Option (D × Env)) : Prop where
  pe : PE X e (tI X.K ev)
  ln : Ln ev
structure PXT (X : Cx) (e : Expr) (ev : Env → Option (Bool × Env)) : Prop where
  pt : PT X e (tIT X.K ev)
  ln : Ln ev
structure PXA (X : Cx) (es : List Expr) (ev : Env → Option (List D × Env)) : Prop where
  pa : PA X es (tIA X.K ev)
  ln : Ln ev
structure PXO (X : Cx) (e : Option Expr) (ev : Env → Option (Option Int × Env)) : Prop where
  po : PO X e (tIO X.K ev)
  ln : Ln ev
theorem pe_imp {X : Cx} {e : Expr} {t t' : TE} (h : PE X e t) (f : ∀ σ H Q, t' σ H Q → t σ H Q) : PE X e t' := ⟨fun pins s σ H Q I q => h.run pins s σ H Q I (f σ H Q q)⟩
theorem pt_imp {X : Cx} {e : Expr} {t t' : TT} (h : PT X e t) (f : ∀ σ H Q, t' σ H Q → t σ H Q) : PT X e t' := ⟨fun pins s σ H Q I q => h.run pins s σ H Q I (f σ H Q q)⟩
theorem pw_imp {X : Cx} {e : Expr} {t t' : TT} (h : PW X e t) (f : ∀ σ H Q, t' σ H Q → t σ H Q) : PW X e t' := ⟨fun wh pins s σ H Q I q => h.run wh pins s σ H Q I (f σ H Q q)⟩
theorem pa_imp {X : Cx} {es : List Expr} {t t' : TA} (h : PA X es t) (f : ∀ σ H Q, t' σ H Q → t σ H Q) : PA X es t' := ⟨fun pos pins s σ H Q I q => h.run pos pins s σ H Q I (f σ H Q q)⟩
theorem po_imp {X : Cx} {e : Option Expr} {t t' : TO} (h : PO X e t) (f : ∀ σ H Q, t' σ H Q → t σ H Q) : PO X e t' := ⟨fun pins s σ H Q I q => h.run pins s σ H Q I (f σ H Q q)⟩
theorem PX.cg {X : Cx} {e : Expr} {ev ev' : Env → Option (D × Env)} (h : PX X e ev) (f : ∀ ρ, ev' ρ = ev ρ) : PX X e ev' := by
  have : ev' = ev := funext f
  rw [this]; exact h
theorem PXT.cg {X : Cx} {e : Expr} {ev ev' : Env → Option (Bool × Env)} (h : PXT X e ev) (f : ∀ ρ, ev' ρ = ev ρ) : PXT X e ev' := by
  have : ev' = ev := funext f
  rw [this]; exact h
theorem PXA.cg {X : Cx} {e : List Expr} {ev ev' : Env → Option (List D × Env)} (h : PXA X e ev) (f : ∀ ρ, ev' ρ = ev ρ) : PXA X e ev' := by
  have : ev' = ev := funext f
  rw [this]; exact h
theorem bnd {α β : Type} {x : Option α} {f : α → Option β} {b : β} (h : x.bind f = some b) : ∃ a, x = some a ∧ f a = some b := Option.bind_eq_some_iff.mp h
theorem mpd {α β : Type} {x : Option α} {f : α → β} {b : β} (h : x.map f = some b) : ∃ a, x = some a ∧ f a = b := Option.map_eq_some_iff.mp h
section
variable {X : Cx} {a b c : Expr} {pos : Pos} {ea eb ec : Env → Option (D × Env)}
/-! ### names, constants -/
theorem len_set {ρ : Env} {i : Nat} {o : Option D} : (ρ.set i o).length = ρ.length := List.length_set
theorem getS_lt {ρ : Env} {i : Nat} {d : D} (h : getS ρ i = some d) : i < ρ.length := (List.getElem?_eq_some_iff.mp (getS_some h)).1
theorem px_cst {k : Const} {c : Cst} {v : V} (f : Flat v (evCst c)) (h : PE X a (tC v)) : PX X a (fun ρ => some (evCst c, ρ)) := by
  refine ⟨pe_imp h fun σ H Q ⟨Gf, N, ts, ρ, hl, hs, p, e, q⟩ => ?_, fun ρ p e => by cases e; rfl⟩
  cases e
  exact q _ _ (hs.flat f)
theorem px_var {i : Nat} (h : PE X a (tVar i)) : PX X a (fun ρ => (getS ρ i).map fun d => (share d, ρ.set i (some (share d)))) := by
  refine ⟨pe_imp h fun σ H Q ⟨Gf, N, ts, ρ, hl, hs, p, e, q⟩ => ?_, fun ρ p e => by obtain ⟨d, _, rfl⟩ := mpd e; exact len_set⟩
  obtain ⟨d, e0, rfl⟩ := mpd e
  obtain ⟨v, ev⟩ := hs.slotV hl e0
  refine ⟨v, ev, q v H ?_⟩
  have h1 := ((hs.take e0 ev).share1.dup (share_share d))
  have h2 := SR.put (ts := tmp v (share d) :: ts) (σ := σ) (i := i) h1 (by rw [len_set]; exact getS_lt e0) ev
  rw [List.set_set] at h2
  exact h2
theorem px_mov {i : Nat} (h : PE X a (tVar i)) : PX X a (fun ρ => (getS ρ i).map fun d => (d, ρ.set i none)) := by
  refine ⟨pe_imp h fun σ H Q ⟨Gf, N, ts, ρ, hl, hs, p, e, q⟩ => ?_, fun ρ p e => by obtain ⟨d, _, rfl⟩ := mpd e; exact len_set⟩
  obtain ⟨d, e0, rfl⟩ := mpd e
  obtain ⟨v, ev⟩ := hs.slotV hl e0
  exact ⟨v, ev, q v H (hs.take e0 ev)⟩
/-! ### operators -/
theorem px_op {r : R2} {f : D → D → Option D} (hr : Op2 X.K r f) {e : Expr} (h : PE X e (tOp r (tI X.K ea) (tI X.K eb))) (la : Ln ea) (lb : Ln eb) :
    PX X e (fun ρ => (ea ρ).bind fun p => (eb p.2).bind fun q => (f p.1 q.1).map fun d => (d, q.2)) := by
  refine ⟨pe_imp h fun σ H Q ⟨Gf, N, ts, ρ, hl, hs, p, e, q⟩ => ?_, fun ρ p e => ?_⟩
  · obtain ⟨pa, e1, e⟩ := bnd e
    obtain ⟨pb, e2, e⟩ := bnd e
    obtain ⟨d, e3, rfl⟩ := mpd e
    refine ⟨Gf, N, ts, ρ, hl, hs, pa, e1, fun x H1 h1 => ⟨Gf, N, tmp x pa.1 :: ts, pa.2, by rw [la _ _ e1]; exact hl, h1, pb, e2, fun y H2 h2 => ?_⟩⟩
    exact hr h2 e3 fun u H' h3 => q u H' h3
  · obtain ⟨pa, e1, e⟩ := bnd e
    obtain ⟨pb, e2, e⟩ := bnd e
    obtain ⟨d, e3, rfl⟩ := mpd e
    show pb.2.length = _
    rw [lb _ _ e2, la _ _ e1]
theorem px_cmp {r : R2} {f : D → D → Option Bool} (hr : Cmp2 X.K r f) {e : Expr} (h : PE X e (tOp r (tI X.K ea) (tI X.K eb))) (la : Ln ea) (lb : Ln eb) :
    PX X e (fun ρ => (ea ρ).bind fun p => (eb p.2).bind fun q => (f p.1 q.1).map fun d => (.bl d, q.2)) := by
  refine ⟨pe_imp h fun σ H Q ⟨Gf, N, ts, ρ, hl, hs, p, e, q⟩ => ?_, fun ρ p e => ?_⟩
  · obtain ⟨pa, e1, e⟩ := bnd e
    obtain ⟨pb, e2, e⟩ := bnd e
    obtain ⟨d, e3, rfl⟩ := mpd e
    refine ⟨Gf, N, ts, ρ, hl, hs, pa, e1, fun x H1 h1 => ⟨Gf, N, tmp x pa.1 :: ts, pa.2, by rw [la _ _ e1]; exact hl, h1, pb, e2, fun y H2 h2 => ?_⟩⟩
    exact hr h2 e3 (q _ _ (SR.flat h2.drop.drop (.bl _)))
  · obtain ⟨pa, e1, e⟩ := bnd e
    obtain ⟨pb, e2, e⟩ := bnd e
    obtain ⟨d, e3, rfl⟩ := mpd e
    show pb.2.length = _
    rw [lb _ _ e2, la _ _ e1]
/-- a value as a test -/
def asT (ea : Env → Option (D × Env)) : Env → Option (Bool × Env) := fun ρ => (ea ρ).bind fun p => match p.1 with
  | .bl b => some (b, p.2)
  | _ => none
theorem asT_some {ρ : Env} {p : Bool × Env} (h : asT ea ρ = some p) : ea ρ = some (.bl p.1, p.2) := by
  obtain ⟨x, e, h⟩ := bnd h
  obtain ⟨d, ρ'⟩ := x
  cases d <;> simp only [reduceCtorEq] at h
  cases h
  exact e
theorem Ln.asT (la : Ln ea) : Ln (asT ea) := fun ρ p e => la ρ _ (asT_some e)
theorem tIT_of {σ : L2.St} {H : Hp} {Q : Bool → Hp → Prop} (h : tIT X.K (asT ea) σ H Q) : tI X.K ea σ H fun x H1 => ∃ k, x = .bl k ∧ Q k H1 := by
  obtain ⟨Gf, N, ts, ρ, hl, hs, p, e, q⟩ := h
  exact ⟨Gf, N, ts, ρ, hl, hs, _, asT_some e, fun v H' h' => ⟨p.1, h'.isBl, q H' h'.drop⟩⟩
theorem pxt_cmp {r : R2} {f : D → D → Option Bool} (hr : Cmp2 X.K r f) {e : Expr} (h : PT X e (tTest (tOp r (tI X.K ea) (tI X.K eb)))) (la : Ln ea) (lb : Ln eb) :
    PXT X e (asT fun ρ => (ea ρ).bind fun p => (eb p.2).bind fun q => (f p.1 q.1).map fun d => (.bl d, q.2)) := by
  refine ⟨pt_imp h fun σ H Q ⟨Gf, N, ts, ρ, hl, hs, ⟨k, ρ'⟩, e, q⟩ => ?_, Ln.asT fun ρ p e => ?_⟩
  · obtain ⟨pa, e1, e0⟩ := bnd (asT_some e)
    obtain ⟨⟨pb1, pb2⟩, e2, e00⟩ := bnd e0
    obtain ⟨d, e3, e4⟩ := mpd e00
    cases e4
    refine ⟨Gf, N, ts, ρ, hl, hs, pa, e1, fun x H1 h1 => ⟨Gf, N, tmp x pa.1 :: ts, pa.2, by rw [la _ _ e1]; exact hl, h1, _, e2, fun y H2 h2 => ?_⟩⟩
    exact hr h2 e3 ⟨_, rfl, q _ (SR.drop (SR.drop h2))⟩
  · obtain ⟨pa, e1, e⟩ := bnd e
    obtain ⟨pb, e2, e⟩ := bnd e
    obtain ⟨d, e3, rfl⟩ := mpd e
    show pb.2.length = _
    rw [lb _ _ e2, la _ _ e1]
theorem px_neg (h : PE X c (tUn (rU fun i => .int (-i)) (tI X.K ea))) (la : Ln ea) : PX X c (fun ρ => (ea ρ).bind fun p => match p.1 with
    | .int i => some (.int (-i), p.2)
    | _ => none) := by
  have key : ∀ {ρ : Env} {p : D × Env}, ((ea ρ).bind fun p => match p.1 with
    | .int i => some (D.int (-i), p.2)
    | _ => none) = some p → ∃ i ρ', ea ρ = some (.int i, ρ') ∧ p = (.int (-i), ρ') := fun {ρ p} h => by
    obtain ⟨⟨d, ρ'⟩, e, h⟩ := bnd h
    cases d <;> simp only [reduceCtorEq] at h
    cases h
    exact ⟨_, _, e, rfl⟩
  refine ⟨pe_imp h fun σ H Q ⟨Gf, N, ts, ρ, hl, hs, p, e, q⟩ => ?_, fun ρ p e => ?_⟩
  · obtain ⟨i, ρ', e1, rfl⟩ := key e
    exact ⟨Gf, N, ts, ρ, hl, hs, _, e1, fun x H1 h1 => ⟨i, h1.isInt, q _ _ (h1.drop.flat (.int _))⟩⟩
  · obtain ⟨i, ρ', e1, rfl⟩ := key e
    have := la _ _ e1
    exact this
def notE (ea : Env → Option (D × Env)) : Env → Option (D × Env) := fun ρ => (ea ρ).bind fun p => match p.1 with
    | .bl b => some (.bl (!b), p.2)
    | _ => none
theorem notE_some {ρ : Env} {p : D × Env} (h : notE ea ρ = some p) : ∃ b ρ', ea ρ = some (.bl b, ρ') ∧ p = (.bl (!b), ρ') := by
  obtain ⟨⟨d, ρ'⟩, e, h⟩ := bnd h
  cases d <;> simp only [reduceCtorEq] at h
  cases h
  exact ⟨_, _, e, rfl⟩
theorem px_not (h : PE X c (tNotV (tI X.K ea))) (la : Ln ea) : PX X c (notE ea) := by
  refine ⟨pe_imp h fun σ H Q ⟨Gf, N, ts, ρ, hl, hs, p, e, q⟩ => ?_, fun ρ p e => ?_⟩
  · obtain ⟨i, ρ', e1, rfl⟩ := notE_some e
    exact ⟨Gf, N, ts, ρ, hl, hs, _, e1, fun x H1 h1 => ⟨i, h1.isBl, q _ _ (h1.drop.flat (.bl _))⟩⟩
  · obtain ⟨i, ρ', e1, rfl⟩ := notE_some e
    have := la _ _ e1
    exact this
theorem pxt_not (h : PT X c (tNot (tIT X.K (asT ea)))) (la : Ln ea) : PXT X c (asT (notE ea)) := by
  refine ⟨pt_imp h fun σ H Q ⟨Gf, N, ts, ρ, hl, hs, ⟨k, ρ1⟩, e, q⟩ => ?_, Ln.asT fun ρ p e => ?_⟩
  · obtain ⟨i, ρ', e1, e2⟩ := notE_some (asT_some e)
    have e3 : k = !i := by injection e2 with e2 _; injection e2
    have e4 : ρ1 = ρ' := by injection e2
    subst e3 e4
    refine ⟨Gf, N, ts, ρ, hl, hs, (i, ρ1), ?_, fun H1 h1 => ?_⟩
    · unfold asT; rw [e1]; rfl
    · exact q _ h1
  · obtain ⟨i, ρ', e1, rfl⟩ := notE_some e
    have := la _ _ e1
    exact this
end
end FL

/-! F8: readings of expressions, further ones. -/
namespace FL
open PySem PySem.Spec PyProof.Rows L2 StX
section
variable {X : Cx} {a b c e : Expr} {es rest : List Expr} {pos : Pos} {ea eb ec : Env → Option (D × Env)}
/-! ### and, or -/
structure PXB (X : Cx) (e : Expr) (ev : Env → Option (Bool × Env)) : Prop where
  pe : PE X e (tI X.K fun ρ => (ev ρ).map fun p => (.bl p.1, p.2))
  pw : PW X e (tIT X.K ev)
  ln : Ln ev
theorem PXB.px {ev : Env → Option (Bool × Env)} (h : PXB X e ev) : PX X e fun ρ => (ev ρ).map fun p => (.bl p.1, p.2) := ⟨h.pe, fun ρ p e => by
  obtain ⟨p', e1, rfl⟩ := mpd e
  exact h.ln _ _ e1⟩
theorem asT_map {ev : Env → Option (Bool × Env)} (ρ : Env) : asT (fun ρ => (ev ρ).map fun p => (.bl p.1, p.2)) ρ = ev ρ := by
  show (((ev ρ).map fun p => (D.bl p.1, p.2)).bind _) = _
  cases ev ρ with
  | none => rfl
  | some p => rfl
theorem PXB.pxt {ev : Env → Option (Bool × Env)} (h : PXB X e ev) : PXT X e (asT fun ρ => (ev ρ).map fun p => (.bl p.1, p.2)) :=
  PXT.cg ⟨h.pw.pt, h.ln⟩ fun ρ => asT_map ρ
theorem asT_bl {ρ : Env} {p : Bool × Env} (h : ea ρ = some (.bl p.1, p.2)) : asT ea ρ = some p := by
  unfold asT; rw [h]; rfl
theorem tI_asT {σ : L2.St} {H : Hp} {Q : VK} (h : tI X.K (fun ρ => (asT ea ρ).map fun p => (.bl p.1, p.2)) σ H Q) : tI X.K ea σ H Q := by
  obtain ⟨Gf, N, ts, ρ, hl, hs, p, e, q⟩ := h
  obtain ⟨p', e1, rfl⟩ := mpd e
  exact ⟨Gf, N, ts, ρ, hl, hs, _, asT_some e1, q⟩
theorem pxb_and1 (h : PX X a ea) (ht : PXT X a (asT ea)) : PXB X (.BoolOp .And [a] pos) (asT ea) :=
  ⟨pe_imp (pe_one h.pe) fun _ _ _ q => tI_asT q, pw_and1 ht.pt, ht.ln⟩
theorem pxb_or1 (h : PX X a ea) (ht : PXT X a (asT ea)) : PXB X (.BoolOp .Or [a] pos) (asT ea) :=
  ⟨pe_imp (pe_one h.pe) fun _ _ _ q => tI_asT q, pw_or1 ht.pt, ht.ln⟩
def andE (ea : Env → Option (D × Env)) (ev : Env → Option (Bool × Env)) : Env → Option (Bool × Env) := fun ρ => (ea ρ).bind fun p => match p.1 with
    | .bl true => ev p.2
    | .bl false => some (false, p.2)
    | _ => none
def orE (ea : Env → Option (D × Env)) (ev : Env → Option (Bool × Env)) : Env → Option (Bool × Env) := fun ρ => (ea ρ).bind fun p => match p.1 with
    | .bl false => ev p.2
    | .bl true => some (true, p.2)
    | _ => none
theorem andE_some {ev : Env → Option (Bool × Env)} {ρ : Env} {p : Bool × Env} (h : andE ea ev ρ = some p) : (∃ ρ', ea ρ = some (.bl true, ρ') ∧ ev ρ' = some p) ∨ (ea ρ = some (.bl false, p.2) ∧ p.1 = false) := by
  obtain ⟨⟨d, ρ'⟩, e, h⟩ := bnd h
  cases d with
  | bl k =>
    cases k with
    | true => exact .inl ⟨ρ', e, h⟩
    | false => cases h; exact .inr ⟨e, rfl⟩
  | _ => cases h
theorem orE_some {ev : Env → Option (Bool × Env)} {ρ : Env} {p : Bool × Env} (h : orE ea ev ρ = some p) : (∃ ρ', ea ρ = some (.bl false, ρ') ∧ ev ρ' = some p) ∨ (ea ρ = some (.bl true, p.2) ∧ p.1 = true) := by
  obtain ⟨⟨d, ρ'⟩, e, h⟩ := bnd h
  cases d with
  | bl k =>
    cases k with
    | false => exact .inl ⟨ρ', e, h⟩
    | true => cases h; exact .inr ⟨e, rfl⟩
  | _ => cases h
theorem Ln.andE {ev : Env → Option (Bool × Env)} (la : Ln ea) (lb : Ln ev) : Ln (andE ea ev) := fun ρ p e => by
  rcases andE_some e with ⟨ρ', e1, e2⟩ | ⟨e1, _⟩
  · rw [lb _ _ e2]; exact la _ _ e1
  · exact la _ _ e1
theorem Ln.orE {ev : Env → Option (Bool × Env)} (la : Ln ea) (lb : Ln ev) : Ln (orE ea ev) := fun ρ p e => by
  rcases orE_some e with ⟨ρ', e1, e2⟩ | ⟨e1, _⟩
  · rw [lb _ _ e2]; exact la _ _ e1
  · exact la _ _ e1
theorem pxb_and {ev : Env → Option (Bool × Env)} (h : PX X a ea) (ht : PXT X a (asT ea)) (hb : PXB X (.BoolOp .And (b :: rest) pos) ev) : PXB X (.BoolOp .And (a :: b :: rest) pos) (andE ea ev) := by
  refine ⟨pe_imp (pe_and h.pe hb.pe) fun σ H Q ⟨Gf, N, ts, ρ, hl, hs, p, e, q⟩ => ?_, pw_imp (pw_and ht.pt hb.pw) fun σ H Q ⟨Gf, N, ts, ρ, hl, hs, p, e, q⟩ => ?_, h.ln.andE hb.ln⟩
  · obtain ⟨p, e0, rfl⟩ := mpd e
    rcases andE_some e0 with ⟨ρ', e1, e2⟩ | ⟨e1, e2⟩
    · refine ⟨Gf, N, ts, ρ, hl, hs, _, e1, fun x H1 h1 => ⟨true, h1.isBl, ?_⟩⟩
      refine iteT ?_
      exact ⟨Gf, N, ts, ρ', hl.trans (h.ln _ _ e1).symm, h1.drop, (.bl p.1, p.2), by show (ev ρ').map _ = _; rw [e2]; rfl, q⟩
    · refine ⟨Gf, N, ts, ρ, hl, hs, _, e1, fun x H1 h1 => ⟨false, h1.isBl, ?_⟩⟩
      refine iteF ?_
      refine q _ _ ?_
      rw [e2, ← h1.isBl]; exact h1
  · rcases andE_some e with ⟨ρ', e1, e2⟩ | ⟨e1, e2⟩
    · refine ⟨Gf, N, ts, ρ, hl, hs, (true, ρ'), asT_bl e1, fun H1 h1 => ?_⟩
      refine iteT ?_
      exact ⟨Gf, N, ts, ρ', hl.trans (h.ln _ _ e1).symm, h1, p, e2, q⟩
    · refine ⟨Gf, N, ts, ρ, hl, hs, (false, p.2), asT_bl e1, fun H1 h1 => ?_⟩
      refine iteF ?_
      have := q _ h1
      rw [e2] at this
      exact this
theorem pxb_or {ev : Env → Option (Bool × Env)} (h : PX X a ea) (ht : PXT X a (asT ea)) (hb : PXB X (.BoolOp .Or (b :: rest) pos) ev) : PXB X (.BoolOp .Or (a :: b :: rest) pos) (orE ea ev) := by
  refine ⟨pe_imp (pe_or h.pe hb.pe) fun σ H Q ⟨Gf, N, ts, ρ, hl, hs, p, e, q⟩ => ?_, pw_imp (pw_or ht.pt hb.pw) fun σ H Q ⟨Gf, N, ts, ρ, hl, hs, p, e, q⟩ => ?_, h.ln.orE hb.ln⟩
  · obtain ⟨p, e0, rfl⟩ := mpd e
    rcases orE_some e0 with ⟨ρ', e1, e2⟩ | ⟨e1, e2⟩
    · refine ⟨Gf, N, ts, ρ, hl, hs, _, e1, fun x H1 h1 => ⟨false, h1.isBl, ?_⟩⟩
      refine iteF ?_
      exact ⟨Gf, N, ts, ρ', hl.trans (h.ln _ _ e1).symm, h1.drop, (.bl p.1, p.2), by show (ev ρ').map _ = _; rw [e2]; rfl, q⟩
    · refine ⟨Gf, N, ts, ρ, hl, hs, _, e1, fun x H1 h1 => ⟨true, h1.isBl, ?_⟩⟩
      refine iteT ?_
      refine q _ _ ?_
      rw [e2, ← h1.isBl]; exact h1
  · rcases orE_some e with ⟨ρ', e1, e2⟩ | ⟨e1, e2⟩
    · refine ⟨Gf, N, ts, ρ, hl, hs, (false, ρ'), asT_bl e1, fun H1 h1 => ?_⟩
      refine iteF ?_
      exact ⟨Gf, N, ts, ρ', hl.trans (h.ln _ _ e1).symm, h1, p, e2, q⟩
    · refine ⟨Gf, N, ts, ρ, hl, hs, (true, p.2), asT_bl e1, fun H1 h1 => ?_⟩
      refine iteT ?_
      have := q _ h1
      rw [e2] at this
      exact this
/-! ### chains -/
def chnE (f f' : D → D → Option Bool) (ea eb ec : Env → Option (D × Env)) : Env → Option (D × Env) := fun ρ => (ea ρ).bind fun p => (eb p.2).bind fun q => (f p.1 (share q.1)).bind fun d => if d = true then (ec q.2).bind fun r => (f' (share q.1) r.1).map fun d' => (.bl d', r.2) else some (.bl false, q.2)
theorem chnE_some {f f' : D → D → Option Bool} {ρ : Env} {p : D × Env} (h : chnE f f' ea eb ec ρ = some p) : ∃ pa pb, ea ρ = some pa ∧ eb pa.2 = some pb ∧ ((f pa.1 (share pb.1) = some false ∧ p = (.bl false, pb.2)) ∨
    ∃ pc k, f pa.1 (share pb.1) = some true ∧ ec pb.2 = some pc ∧ f' (share pb.1) pc.1 = some k ∧ p = (.bl k, pc.2)) := by
  obtain ⟨pa, e1, h⟩ := bnd h
  obtain ⟨pb, e2, h⟩ := bnd h
  obtain ⟨d, e3, h⟩ := bnd h
  refine ⟨pa, pb, e1, e2, ?_⟩
  cases d with
  | true =>
    rw [if_pos rfl] at h
    obtain ⟨pc, e4, h⟩ := bnd h
    obtain ⟨k, e5, rfl⟩ := mpd h
    exact .inr ⟨pc, k, e3, e4, e5, rfl⟩
  | false =>
    rw [if_neg (by simp)] at h
    cases h
    exact .inl ⟨e3, rfl⟩
theorem Ln.chnE {f f' : D → D → Option Bool} (la : Ln ea) (lb : Ln eb) (lc : Ln ec) : Ln (chnE f f' ea eb ec) := fun ρ p h => by
  obtain ⟨pa, pb, e1, e2, ⟨_, rfl⟩ | ⟨pc, k, _, e4, _, rfl⟩⟩ := chnE_some h
  · show pb.2.length = _; rw [lb _ _ e2, la _ _ e1]
  · show pc.2.length = _; rw [lc _ _ e4, lb _ _ e2, la _ _ e1]
theorem tI_chn {r r' : R2} {f f' : D → D → Option Bool} (hr : Cmp2 X.K r f) (hr' : Cmp2 X.K r' f') (la : Ln ea) (lb : Ln eb) (lc : Ln ec) {σ : L2.St} {H : Hp} {Q : VK} (h : tI X.K (chnE f f' ea eb ec) σ H Q) : tChain r r' (tI X.K ea) (tI X.K eb) (tI X.K ec) σ H Q := by
  obtain ⟨Gf, N, ts, ρ, hl, hs, p, e, q⟩ := h
  obtain ⟨pa, pb, e1, e2, h⟩ := chnE_some e
  refine ⟨Gf, N, ts, ρ, hl, hs, pa, e1, fun x H1 h1 => ⟨Gf, N, tmp x pa.1 :: ts, pa.2, by rw [la _ _ e1]; exact hl, h1, pb, e2, fun y H2 h2 => ?_⟩⟩
  have h2' : SR X.K Gf N H2 (tmp y (share pb.1) :: tmp x pa.1 :: (ts ++ σ.zip pb.2)) := SR.share1 h2
  rcases h with ⟨e3, rfl⟩ | ⟨pc, k, e3, e4, e5, rfl⟩
  · refine hr h2' e3 ⟨false, rfl, ?_⟩
    rw [if_neg (by simp)]
    exact q _ _ (h2'.drop.drop.flat (.bl _))
  · refine hr h2' e3 ⟨true, rfl, ?_⟩
    rw [if_pos rfl]
    refine ⟨Gf, N, tmp y (share pb.1) :: ts, pb.2, by rw [lb _ _ e2, la _ _ e1]; exact hl, h2'.dropMid, pc, e4, fun z H3 h3 => ?_⟩
    exact hr' h3 e5 (q _ _ (SR.flat h3.drop.drop (.bl _)))
theorem px_chn {r r' : R2} {f f' : D → D → Option Bool} (hr : Cmp2 X.K r f) (hr' : Cmp2 X.K r' f') (h : PE X e (tChain r r' (tI X.K ea) (tI X.K eb) (tI X.K ec))) (la : Ln ea) (lb : Ln eb) (lc : Ln ec) : PX X e (chnE f f' ea eb ec) :=
  ⟨pe_imp h fun _ _ _ q => tI_chn hr hr' la lb lc q, la.chnE lb lc⟩
theorem pxt_chn {r r' : R2} {f f' : D → D → Option Bool} (hr : Cmp2 X.K r f) (hr' : Cmp2 X.K r' f') (h : PT X e (tTest (tChain r r' (tI X.K ea) (tI X.K eb) (tI X.K ec)))) (la : Ln ea) (lb : Ln eb) (lc : Ln ec) : PXT X e (asT (chnE f f' ea eb ec)) :=
  ⟨pt_imp h fun _ _ _ q => tI_chn hr hr' la lb lc (tIT_of q), Ln.asT (la.chnE lb lc)⟩
/-! ### if -/
def iteE (ec ea eb : Env → Option (D × Env)) : Env → Option (D × Env) := fun ρ => (ec ρ).bind fun p => match p.1 with
    | .bl true => ea p.2
    | .bl false => eb p.2
    | _ => none
theorem iteE_some {ρ : Env} {p : D × Env} (h : iteE ec ea eb ρ = some p) : ∃ ρ', (ec ρ = some (.bl true, ρ') ∧ ea ρ' = some p) ∨ (ec ρ = some (.bl false, ρ') ∧ eb ρ' = some p) := by
  obtain ⟨⟨d, ρ'⟩, e, h⟩ := bnd h
  cases d with
  | bl k =>
    cases k with
    | true => exact ⟨ρ', .inl ⟨e, h⟩⟩
    | false => exact ⟨ρ', .inr ⟨e, h⟩⟩
  | _ => cases h
theorem px_ite (hc : PXT X c (asT ec)) (lc : Ln ec) (ha : PX X a ea) (hb : PX X b eb) : PX X (.IfExp c a b pos) (iteE ec ea eb) := by
  refine ⟨pe_imp (pe_ifExp hc.pt ha.pe hb.pe) fun σ H Q ⟨Gf, N, ts, ρ, hl, hs, p, e, q⟩ => ?_, fun ρ p e => ?_⟩
  · obtain ⟨ρ', ⟨e1, e2⟩ | ⟨e1, e2⟩⟩ := iteE_some e
    · refine ⟨Gf, N, ts, ρ, hl, hs, (true, ρ'), asT_bl e1, fun H1 h1 => ?_⟩
      refine iteT ?_
      exact ⟨Gf, N, ts, ρ', hl.trans (lc _ _ e1).symm, h1, p, e2, q⟩
    · refine ⟨Gf, N, ts, ρ, hl, hs, (false, ρ'), asT_bl e1, fun H1 h1 => ?_⟩
      refine iteF ?_
      exact ⟨Gf, N, ts, ρ', hl.trans (lc _ _ e1).symm, h1, p, e2, q⟩
  · obtain ⟨ρ', ⟨e1, e2⟩ | ⟨e1, e2⟩⟩ := iteE_some e
    · rw [ha.ln _ _ e2]; exact lc _ _ e1
    · rw [hb.ln _ _ e2]; exact lc _ _ e1
/-! ### argument lists, displays -/
theorem pxa_nil : PXA X [] (fun ρ => some ([], ρ)) := ⟨pa_imp pa_nil fun σ H Q ⟨Gf, N, ts, ρ, hl, hs, p, e, q⟩ => by cases e; exact q [] _ rfl hs, fun ρ p e => by cases e; rfl⟩
theorem pxa_cons {er : Env → Option (List D × Env)} (ha : PX X a ea) (hr : PXA X es er) (hs : starEach (a :: es) X.env = (false, eval a X.env) :: starEach es X.env) :
    PXA X (a :: es) (fun ρ => (ea ρ).bind fun p => (er p.2).map fun q => (p.1 :: q.1, q.2)) := by
  refine ⟨pa_imp (pa_cons ha.pe hr.pa hs) fun σ H Q ⟨Gf, N, ts, ρ, hl, hs, p, e, q⟩ => ?_, fun ρ p e => ?_⟩
  · obtain ⟨pa, e1, e⟩ := bnd e
    obtain ⟨pr, e2, rfl⟩ := mpd e
    refine ⟨Gf, N, ts, ρ, hl, hs, pa, e1, fun x H1 h1 => ⟨Gf, N, tmp x pa.1 :: ts, pa.2, by rw [ha.ln _ _ e1]; exact hl, h1, pr, e2, fun vs H2 l2 h2 => ?_⟩⟩
    refine q (x :: vs) H2 (by simp [l2]) ?_
    exact SR.toFront h2
  · obtain ⟨pa, e1, e⟩ := bnd e
    obtain ⟨pr, e2, rfl⟩ := mpd e
    show pr.2.length = _
    rw [hr.ln _ _ e2, ha.ln _ _ e1]
def starE (ea : Env → Option (D × Env)) (er : Env → Option (List D × Env)) : Env → Option (List D × Env) := fun ρ => (ea ρ).bind fun p => match p.1 with
    | .tup xs => (er p.2).map fun q => (shares xs ++ q.1, q.2)
    | .lst _ xs => (er p.2).map fun q => (shares xs ++ q.1, q.2)
    | _ => none
theorem starE_some {er : Env → Option (List D × Env)} {ρ : Env} {p : List D × Env} (h : starE ea er ρ = some p) : ∃ d ρ' q, ea ρ = some (d, ρ') ∧ isCont d = true ∧ (∀ (K : PySem.W.Frag) H a vs, Cont K H a vs d → SqT K H a vs ∨ SqL K H a vs) ∧ er ρ' = some q ∧ p = (shares (itemsD d) ++ q.1, q.2) := by
  obtain ⟨⟨d, ρ'⟩, e, h⟩ := bnd h
  cases d with
  | tup xs =>
    obtain ⟨q, e2, rfl⟩ := mpd h
    exact ⟨_, ρ', q, e, rfl, fun K H a vs c => .inl c, e2, rfl⟩
  | lst f xs =>
    obtain ⟨q, e2, rfl⟩ := mpd h
    exact ⟨_, ρ', q, e, rfl, fun K H a vs c => .inr c.1, e2, rfl⟩
  | _ => cases h
theorem pxa_star {er : Env → Option (List D × Env)} {p : Pos} (ha : PX X a ea) (hr : PXA X es er) (hs : starEach (.Starred a p :: es) X.env = (true, eval a X.env) :: starEach es X.env) : PXA X (.Starred a p :: es) (starE ea er) := by
  refine ⟨pa_imp (pa_star ha.pe hr.pa hs) fun σ H Q ⟨Gf, N, ts, ρ, hl, hs, p, e, q⟩ => ?_, fun ρ p e => ?_⟩
  · obtain ⟨d, ρ', pr, e1, hc, hq, e2, rfl⟩ := starE_some e
    refine ⟨Gf, N, ts, ρ, hl, hs, _, e1, fun x H1 h1 => ?_⟩
    obtain ⟨a, vs, ev, c, l, h2⟩ := h1.items1 hc
    refine ⟨a, vs, ev, hq _ _ _ _ c, Gf, N, tmps vs (shares (itemsD d)) ++ ts, ρ', by rw [hl]; exact (ha.ln _ _ e1).symm, by rw [List.append_assoc]; exact h2, pr, e2, fun us H2 l2 h3 => ?_⟩
    refine q (vs ++ us) H2 (by simp [l, l2, shares_len]) ?_
    rw [tmps_append (by rw [l, shares_len])]
    refine h3.perm ?_
    rw [List.append_assoc, List.append_assoc, ← List.append_assoc, ← List.append_assoc (tmps vs _)]
    exact List.perm_append_comm.append_right _
  · obtain ⟨d, ρ', pr, e1, hc, hq, e2, rfl⟩ := starE_some e
    show pr.2.length = _
    rw [hr.ln _ _ e2]; exact ha.ln _ _ e1
def lstE (er : Env → Option (List D × Env)) : Env → Option (D × Env) := fun ρ => (er ρ).bind fun p => if p.1.length ≤ SZ then some (.lst .own p.1, p.2) else none
def tupE (er : Env → Option (List D × Env)) : Env → Option (D × Env) := fun ρ => (er ρ).bind fun p => if p.1.length ≤ SZ then some (.tup p.1, p.2) else none
theorem px_lst {er : Env → Option (List D × Env)} (h : PXA X es er) : PX X (.List es pos) (lstE er) := by
  have key : ∀ {ρ p}, lstE er ρ = some p → ∃ q, er ρ = some q ∧ q.1.length ≤ SZ ∧ p = (.lst .own q.1, q.2) := fun {ρ p} h => by
    obtain ⟨q, e, h⟩ := bnd h
    split at h
    · cases h; exact ⟨q, e, by assumption, rfl⟩
    · cases h
  refine ⟨pe_imp (pe_lst h.pa) fun σ H Q ⟨Gf, N, ts, ρ, hl, hs, p, e, q⟩ => ?_, fun ρ p e => ?_⟩
  · obtain ⟨pr, e1, l, rfl⟩ := key e
    exact ⟨Gf, N, ts, ρ, hl, hs, pr, e1, fun vs H1 l1 h1 => ⟨by rw [l1, sizeLine_eq]; exact l, fun p hp => q _ _ (h1.newL l1 hp)⟩⟩
  · obtain ⟨pr, e1, l, rfl⟩ := key e
    have := h.ln _ _ e1
    exact this
theorem px_tup {er : Env → Option (List D × Env)} {k : Nat} (h : PXA X es er) : PX X (.Tuple es k pos) (tupE er) := by
  have key : ∀ {ρ p}, tupE er ρ = some p → ∃ q, er ρ = some q ∧ q.1.length ≤ SZ ∧ p = (.tup q.1, q.2) := fun {ρ p} h => by
    obtain ⟨q, e, h⟩ := bnd h
    split at h
    · cases h; exact ⟨q, e, by assumption, rfl⟩
    · cases h
  refine ⟨pe_imp (pe_tup h.pa) fun σ H Q ⟨Gf, N, ts, ρ, hl, hs, p, e, q⟩ => ?_, fun ρ p e => ?_⟩
  · obtain ⟨pr, e1, l, rfl⟩ := key e
    exact ⟨Gf, N, ts, ρ, hl, hs, pr, e1, fun vs H1 l1 h1 => ⟨by rw [l1, sizeLine_eq]; exact l, fun p hp => q _ _ (h1.newT l1 hp)⟩⟩
  · obtain ⟨pr, e1, l, rfl⟩ := key e
    have := h.ln _ _ e1
    exact this
/-! ### x[i] of a name, slices -/
theorem px_idv {i : Nat} (ha : PE X a (tVar i)) (hb : PX X b eb) (hs : PlainIx b) : PX X (.Subscript a b pos) (fun ρ => (getS ρ i).bind fun _ => (eb ρ).bind fun p => (getS p.2 i).bind fun x => (idvD x p.1).map fun r => (r.1, p.2.set i (some r.2))) := by
  refine ⟨pe_imp (pe_ix ixr_X ha hb.pe hs) fun σ H Q ⟨Gf, N, ts, ρ, hl, hs, p, e, q⟩ => ?_, fun ρ p e => ?_⟩
  · obtain ⟨x0, e0, e⟩ := bnd e
    obtain ⟨pb, e1, e⟩ := bnd e
    obtain ⟨x, e2, e⟩ := bnd e
    obtain ⟨r, e3, rfl⟩ := mpd e
    obtain ⟨v, ev⟩ := hs.slotV hl e0
    refine ⟨v, ev, Gf, N, ts, ρ, hl, hs, pb, e1, fun y H2 h2 => ?_⟩
    have h3 := SR.take (ts := tmp y pb.1 :: ts) h2 e2 ev
    refine snd_XV (d := r.1) (dv' := r.2) h3.swap2 (by rw [e3]) fun u h4 => q u H2 ?_
    have h5 := SR.put (ts := tmp u r.1 :: ts) (σ := σ) (i := i) h4.swap2 (by rw [len_set]; exact getS_lt e2) ev
    rw [List.set_set] at h5
    exact h5
  · obtain ⟨x0, e0, e⟩ := bnd e
    obtain ⟨pb, e1, e⟩ := bnd e
    obtain ⟨x, e2, e⟩ := bnd e
    obtain ⟨r, e3, rfl⟩ := mpd e
    show (pb.2.set i _).length = _
    rw [len_set]; exact hb.ln _ _ e1
theorem pxo_no : PXO X none (fun ρ => some (none, ρ)) := ⟨po_imp po_none fun σ H Q ⟨Gf, N, ts, ρ, hl, hs, p, e, q⟩ => by cases e; exact q _ hs, fun ρ p e => by cases e; rfl⟩
def someE (ea : Env → Option (D × Env)) : Env → Option (Option Int × Env) := fun ρ => (ea ρ).bind fun p => match p.1 with
    | .int i => some (some i, p.2)
    | _ => none
theorem someE_some {ρ : Env} {p : Option Int × Env} (h : someE ea ρ = some p) : ∃ i, ea ρ = some (.int i, p.2) ∧ p.1 = some i := by
  obtain ⟨⟨d, ρ'⟩, e, h⟩ := bnd h
  cases d <;> simp only [reduceCtorEq] at h
  cases h
  exact ⟨_, e, rfl⟩
theorem pxo_yes (ha : PX X a ea) (h : PO X (some a) (tPart (tI X.K ea))) : PXO X (some a) (someE ea) := by
  refine ⟨po_imp h fun σ H Q ⟨Gf, N, ts, ρ, hl, hs, p, e, q⟩ => ?_, fun ρ p e => ?_⟩
  · obtain ⟨i, e1, e2⟩ := someE_some e
    refine ⟨Gf, N, ts, ρ, hl, hs, _, e1, fun x H1 h1 => ⟨i, h1.isInt, ?_⟩⟩
    rw [← e2]; exact q _ h1.drop
  · obtain ⟨i, e1, e2⟩ := someE_some e
    exact ha.ln _ _ e1
theorem px_slc {lo hi : Option Expr} {el eh : Env → Option (Option Int × Env)} {p2 : Pos} (ha : PX X a ea) (hl : PXO X lo el) (hh : PXO X hi eh) :
    PX X (.Subscript a (.Slice lo hi none p2) pos) (fun ρ => (ea ρ).bind fun p => (el p.2).bind fun l => (eh l.2).bind fun h => (slcD p.1 l.1 h.1).map fun d => (d, h.2)) := by
  refine ⟨pe_imp (pe_slice sl_list ha.pe hl.po hh.po) fun σ H Q ⟨Gf, N, ts, ρ, hz, hs, p, e, q⟩ => ?_, fun ρ p e => ?_⟩
  · obtain ⟨pa, e1, e⟩ := bnd e
    obtain ⟨pl, e2, e⟩ := bnd e
    obtain ⟨ph, e3, e⟩ := bnd e
    obtain ⟨d, e4, rfl⟩ := mpd e
    refine ⟨Gf, N, ts, ρ, hz, hs, pa, e1, fun x H1 h1 => ⟨Gf, N, tmp x pa.1 :: ts, pa.2, by rw [ha.ln _ _ e1]; exact hz, h1, pl, e2, fun H2 h2 => ⟨Gf, N, tmp x pa.1 :: ts, pl.2, by rw [hl.ln _ _ e2, ha.ln _ _ e1]; exact hz, h2, ph, e3, fun H3 h3 => ?_⟩⟩⟩
    exact snd_slc h3 e4 fun u H' h4 => q u H' h4
  · obtain ⟨pa, e1, e⟩ := bnd e
    obtain ⟨pl, e2, e⟩ := bnd e
    obtain ⟨ph, e3, e⟩ := bnd e
    obtain ⟨d, e4, rfl⟩ := mpd e
    show ph.2.length = _
    rw [hh.ln _ _ e3, hl.ln _ _ e2, ha.ln _ _ e1]
/-! ### built-ins -/
theorem px_call {er : Env → Option (List D × Env)} {r : RC1} {f : List D → Option D} (hr : CallS X.K r f) (h : PE X e (tCB r (tIA X.K er))) (lr : Ln er) : PX X e (fun ρ => (er ρ).bind fun p => (f p.1).map fun d => (d, p.2)) := by
  refine ⟨pe_imp h fun σ H Q ⟨Gf, N, ts, ρ, hl, hs, p, e, q⟩ => ?_, fun ρ p e => ?_⟩
  · obtain ⟨pr, e1, e⟩ := bnd e
    obtain ⟨d, e2, rfl⟩ := mpd e
    exact ⟨Gf, N, ts, ρ, hl, hs, pr, e1, fun vs H1 l1 h1 => hr h1 l1 e2 fun u H' h2 => q u H' h2⟩
  · obtain ⟨pr, e1, e⟩ := bnd e
    obtain ⟨d, e2, rfl⟩ := mpd e
    have := lr _ _ e1
    exact this
/-- isinstance(a, n) -/
theorem px_isi {n : String} (hn : n ∈ biNames) (h : PE X e (tCB (rIsi X.K) (tCons (tI X.K ea) (tCons (tC (.ty n)) tNil)))) (la : Ln ea) : PX X e (fun ρ => (ea ρ).bind fun p => (isiD p.1 (.bi n)).map fun b => (.bl b, p.2)) := by
  refine ⟨pe_imp h fun σ H Q ⟨Gf, N, ts, ρ, hl, hs, p, e, q⟩ => ?_, fun ρ p e => ?_⟩
  · obtain ⟨pa, e1, e⟩ := bnd e
    obtain ⟨b, e2, rfl⟩ := mpd e
    exact ⟨Gf, N, ts, ρ, hl, hs, pa, e1, fun x H1 h1 => snd_isi h1 hn e2 (q _ _ (h1.drop.flat (.bl _)))⟩
  · obtain ⟨pa, e1, e⟩ := bnd e
    obtain ⟨b, e2, rfl⟩ := mpd e
    have := la _ _ e1
    exact this
/-! ### fields -/
/-- the classes and their fields that are known -/
def ClsOk (K : PySem.W.Frag) (cs : List (Str × List Str)) : Prop := ∀ c ∈ cs, Cls K (He.ga K c.1) ∧ ∀ f ∈ c.2, NoAttr K (He.ga K c.1) f
theorem hasFld_ok {K : PySem.W.Frag} {cs : List (Str × List Str)} (hc : ClsOk K cs) {f c : Str} {o : Fl} {ns : List Str} {xs : List D} (h : hasFld cs f (.obj o c ns xs) = true) : Cls K (He.ga K c) ∧ NoAttr K (He.ga K c) f := by
  unfold hasFld at h
  obtain ⟨p, hp, h⟩ := List.any_eq_true.mp h
  rw [Bool.and_eq_true] at h
  have e := of_decide_eq_true h.1
  subst e
  exact ⟨(hc p hp).1, (hc p hp).2 f (by simpa using h.2)⟩
theorem px_fld {cs : List (Str × List Str)} {f : Str} (hc : ClsOk X.K cs) (ha : PX X a ea) (hb : attributeBase a f X.env (eval a X.env) = eval a X.env) : PX X (.Attribute a f pos) (fun ρ => (ea ρ).bind fun p => if hasFld cs f p.1 = true then (fldD p.1 f).map fun d => (d, p.2) else none) := by
  refine ⟨pe_imp (pe_fld ha.pe hb) fun σ H Q ⟨Gf, N, ts, ρ, hl, hs, p, e, q⟩ => ?_, fun ρ p e => ?_⟩
  · obtain ⟨pa, e1, e⟩ := bnd e
    split at e
    · rename_i hf
      obtain ⟨d, e2, rfl⟩ := mpd e
      refine ⟨Gf, N, ts, ρ, hl, hs, pa, e1, fun x H1 h1 => ?_⟩
      obtain ⟨a, c, dx, fs, u, ⟨o, ns, xs, ed, _⟩, ev, ea, lk, h2⟩ := snd_fld h1 e2
      rw [ed] at hf
      exact ⟨a, _, dx, fs, u, ev, ea, (hasFld_ok hc hf).1, (hasFld_ok hc hf).2, lk, q _ _ h2⟩
    · cases e
  · obtain ⟨pa, e1, e⟩ := bnd e
    split at e
    · obtain ⟨d, e2, rfl⟩ := mpd e
      have := ha.ln _ _ e1
      exact this
    · cases e
theorem px_flv {cs : List (Str × List Str)} {i : Nat} {f : Str} (hc : ClsOk X.K cs) (ha : PE X a (tVar i)) (hb : attributeBase a f X.env (eval a X.env) = eval a X.env) : PX X (.Attribute a f pos) (fun ρ => (getS ρ i).bind fun x => if hasFld cs f x = true then (flvD x f).map fun r => (r.1, ρ.set i (some r.2)) else none) := by
  refine ⟨pe_imp (pe_fld ha hb) fun σ H Q ⟨Gf, N, ts, ρ, hl, hs, p, e, q⟩ => ?_, fun ρ p e => ?_⟩
  · obtain ⟨x, e1, e⟩ := bnd e
    split at e
    · rename_i hf
      obtain ⟨r, e2, rfl⟩ := mpd e
      obtain ⟨v, ev⟩ := hs.slotV hl e1
      refine ⟨v, ev, ?_⟩
      obtain ⟨a, c, dx, fs, u, ⟨o, ns, xs, ed, _⟩, ev', ea, lk, h2⟩ := snd_flv (x := r.1) (d' := r.2) (hs.take e1 ev) (by rw [e2])
      rw [ed] at hf
      refine ⟨a, _, dx, fs, u, ev', ea, (hasFld_ok hc hf).1, (hasFld_ok hc hf).2, lk, q _ _ ?_⟩
      have h5 := SR.put (ts := tmp u r.1 :: ts) (σ := σ) (i := i) h2.swap2 (by rw [len_set]; exact getS_lt e1) ev
      rw [List.set_set] at h5
      exact h5
    · cases e
  · obtain ⟨x, e1, e⟩ := bnd e
    split at e
    · obtain ⟨r, e2, rfl⟩ := mpd e
      exact len_set
    · cases e
/-! ### calls -/
def rootsA : List V → List (Option D) → List Root
  | v :: vs, o :: os => (some v, o) :: rootsA vs os
  | _, _ => []
theorem rootsA_some : ∀ (vs : List V) (ds : List D), rootsA vs (ds.map some) = tmps vs ds
  | [], _ => by cases ‹List D› <;> rfl
  | _ :: _, [] => rfl
  | v :: vs, d :: ds => by simp [rootsA, tmps, rootsA_some vs ds]
def RefOk (σ : L2.St) : As → List V → Prop
  | .nil, [] => True
  | .cons (.val _) as, _ :: vs => RefOk σ as vs
  | .cons (.ref i) as, v :: vs => σ[i]? = some (some v) ∧ RefOk σ as vs
  | _, _ => False
section
variable {K : PySem.W.Frag} {H Gf : Hp} {N : List Addr} {σ : L2.St}
theorem take_ok : ∀ {as : As} {vs : List V} {ods : List (Option D)} {ρ ρ' : Env} {ds : List D} {ts : List Root}, SR K Gf N H (rootsA vs ods ++ (ts ++ σ.zip ρ)) → RefOk σ as vs → takeA as ods ρ = some (ds, ρ') →
    SR K Gf N H (tmps vs ds ++ (ts ++ σ.zip ρ')) ∧ vs.length = ds.length ∧ ρ'.length = ρ.length
  | .nil, [], [], ρ, ρ', ds, ts, h, _, e => by
    simp only [takeA, Option.some.injEq, Prod.mk.injEq] at e
    obtain ⟨rfl, rfl⟩ := e
    exact ⟨h, rfl, rfl⟩
  | .nil, _ :: _, _, _, _, _, _, _, r, _ => by simp [RefOk] at r
  | .nil, [], _ :: _, _, _, _, _, _, _, e => by simp [takeA] at e
  | .cons _ _, [], _, _, _, _, _, _, r, _ => by simp [RefOk] at r
  | .cons (.val _) as, v :: vs, [], _, _, _, _, _, _, e => by simp [takeA] at e
  | .cons (.ref _) as, v :: vs, [], _, _, _, _, _, _, e => by simp [takeA] at e
  | .cons (.val _) as, v :: vs, none :: ods, _, _, _, _, _, _, e => by simp [takeA] at e
  | .cons (.ref _) as, v :: vs, some _ :: ods, _, _, _, _, _, _, e => by simp [takeA] at e
  | .cons (.val x) as, v :: vs, some d :: ods, ρ, ρ', ds, ts, h, r, e => by
    simp only [takeA] at e
    obtain ⟨⟨ds', ρ2⟩, e1, e2⟩ := mpd e
    cases e2
    have h1 : SR K Gf N H (rootsA vs ods ++ ((tmp v d :: ts) ++ σ.zip ρ)) := SR.fromFront (r := tmp v d) h
    obtain ⟨h2, l, l'⟩ := take_ok (as := as) h1 (by simpa [RefOk] using r) e1
    exact ⟨SR.toFront (r := tmp v d) h2, by simp [l], l'⟩
  | .cons (.ref i) as, v :: vs, none :: ods, ρ, ρ', ds, ts, h, r, e => by
    simp only [takeA] at e
    obtain ⟨d, e0, e⟩ := bnd e
    obtain ⟨⟨ds', ρ2⟩, e1, e2⟩ := mpd e
    cases e2
    simp only [RefOk] at r
    have h0 : SR K Gf N H ((rootsA vs ods ++ ts) ++ σ.zip ρ) := by rw [List.append_assoc]; exact SR.drop h
    have h1 := h0.take e0 r.1
    have h1' : SR K Gf N H (rootsA vs ods ++ ((tmp v d :: ts) ++ σ.zip (ρ.set i none))) := by
      rw [List.append_assoc] at h1
      exact SR.fromFront (r := tmp v d) h1
    obtain ⟨h2, l, l'⟩ := take_ok (as := as) h1' r.2 e1
    exact ⟨SR.toFront (r := tmp v d) h2, by simp [l], by rw [l', len_set]⟩
theorem put_ok : ∀ {as : As} {vs : List V} {os : List (Option D)} {ρ ρ' : Env} {ts : List Root}, SR K Gf N H (rootsA vs os ++ (ts ++ σ.zip ρ)) → σ.length = ρ.length → RefOk σ as vs → putA as os ρ = some ρ' →
    SR K Gf N H (ts ++ σ.zip ρ') ∧ ρ'.length = ρ.length
  | .nil, [], [], ρ, ρ', ts, h, _, _, e => by
    simp only [putA, Option.some.injEq] at e
    subst e
    exact ⟨h, rfl⟩
  | .nil, _ :: _, _, _, _, _, _, _, r, _ => by simp [RefOk] at r
  | .nil, [], _ :: _, _, _, _, _, _, _, e => by simp [putA] at e
  | .cons _ _, [], _, _, _, _, _, _, r, _ => by simp [RefOk] at r
  | .cons (.val _) as, v :: vs, [], _, _, _, _, _, _, e => by simp [putA] at e
  | .cons (.ref _) as, v :: vs, [], _, _, _, _, _, _, e => by simp [putA] at e
  | .cons (.ref _) as, v :: vs, none :: os, _, _, _, _, _, _, e => by simp [putA] at e
  | .cons (.val _) as, v :: vs, o :: os, ρ, ρ', ts, h, hl, r, e => by
    simp only [putA] at e
    exact put_ok (as := as) (SR.drop h) hl (by simpa [RefOk] using r) e
  | .cons (.ref i) as, v :: vs, some d :: os, ρ, ρ', ts, h, hl, r, e => by
    simp only [putA] at e
    simp only [RefOk] at r
    have hi : i < ρ.length := by rw [← hl]; exact (List.getElem?_eq_some_iff.mp r.1).1
    have h1 : SR K Gf N H (tmp v d :: ((rootsA vs os ++ ts) ++ σ.zip ρ)) := by rw [List.append_assoc]; exact h
    have h2 := h1.put hi r.1
    rw [List.append_assoc] at h2
    obtain ⟨h3, l⟩ := put_ok (as := as) h2 (by rw [len_set]; exact hl) r.2 e
    exact ⟨h3, by rw [l, len_set]⟩
end
/-- an exception x of the class cls with the dict d, beside the roots -/
def XSR (K : PySem.W.Frag) (Gf : Hp) (N : List Addr) (H : Hp) (cls : Value) (d : Option Addr) (x : Exn) (rs : List Root) : Prop :=
  cls = .ref (He.ga K x.c) ∧ match x.a with
    | none => d = none ∧ SR K Gf N H rs
    | some (f, y) => ∃ dd v, d = some dd ∧ H dd = some (.xd [(f, v)]) ∧ SR K Gf N H (tmp v y :: rs)
theorem XSR.imp {K : PySem.W.Frag} {Gf Gf' : Hp} {N N' : List Addr} {H : Hp} {cls : Value} {d : Option Addr} {x : Exn} {rs rs' : List Root} (h : XSR K Gf N H cls d x rs) (f : ∀ ts, SR K Gf N H (ts ++ rs) → SR K Gf' N' H (ts ++ rs')) : XSR K Gf' N' H cls d x rs' := by
  obtain ⟨c, a⟩ := x
  obtain ⟨h1, h2⟩ := h
  refine ⟨h1, ?_⟩
  cases a with
  | none => exact ⟨h2.1, f [] h2.2⟩
  | some p =>
    obtain ⟨dd, v, e1, e2, h3⟩ := h2
    exact ⟨dd, v, e1, e2, f [_] h3⟩
/-- what a def promises, from its evaluator -/
def spOf (K : PySem.W.Frag) (n : Nat) (φ : List D → Option (D × List (Option D))) (ψ : List D → Option (Exn × List (Option D))) : Sp := fun vs H Q E => ∃ Gf N ds, vs.length = ds.length ∧ vs.length = n ∧ SR K Gf N H (tmps vs ds) ∧
  ((∃ r, φ ds = some r ∧ ∀ v H', SR K Gf N H' (tmp v r.1 :: rootsA vs r.2) → Q v H') ∨ ∃ r, ψ ds = some r ∧ ∀ cls d H', XSR K Gf N H' cls d r.1 (rootsA vs r.2) → E cls d H')
/-- arguments, some of them names that are lent -/
def tArg (K : PySem.W.Frag) (as : As) (ev : Env → Option (List (Option D) × Env)) : TA := fun σ H Q => ∃ Gf N ts ρ, σ.length = ρ.length ∧ SR K Gf N H (ts ++ σ.zip ρ) ∧ ∃ p, ev ρ = some p ∧ ∀ vs H', RefOk σ as vs → SR K Gf N H' (rootsA vs p.1 ++ (ts ++ σ.zip p.2)) → Q vs H'
structure PXG (X : Cx) (es : List Expr) (as : As) (ev : Env → Option (List (Option D) × Env)) : Prop where
  pa : PA X es (tArg X.K as ev)
  ln : Ln ev
structure PX1 (X : Cx) (e : Expr) (x : A) (ev : Env → Option (Option D × Env)) : Prop where
  pe : PE X e (fun σ H Q => ∃ Gf N ts ρ, σ.length = ρ.length ∧ SR X.K Gf N H (ts ++ σ.zip ρ) ∧ ∃ p, ev ρ = some p ∧ ∀ v H', (∀ i, x = .ref i → σ[i]? = some (some v)) → SR X.K Gf N H' ((some v, p.1) :: (ts ++ σ.zip p.2)) → Q v H')
  ln : Ln ev
theorem px1_val {x : E} (h : PX X a ea) : PX1 X a (.val x) (fun ρ => (ea ρ).map fun p => (some p.1, p.2)) := by
  refine ⟨pe_imp h.pe fun σ H Q ⟨Gf, N, ts, ρ, hl, hs, p, e, q⟩ => ?_, fun ρ p e => ?_⟩
  · obtain ⟨pa, e1, rfl⟩ := mpd e
    exact ⟨Gf, N, ts, ρ, hl, hs, pa, e1, fun v H' h' => q v H' (fun i z => by cases z) h'⟩
  · obtain ⟨pa, e1, rfl⟩ := mpd e
    have := h.ln _ _ e1
    exact this
theorem px1_ref {i : Nat} (h : PE X a (tVar i)) : PX1 X a (.ref i) (fun ρ => (getS ρ i).map fun _ => (none, ρ)) := by
  refine ⟨pe_imp h fun σ H Q ⟨Gf, N, ts, ρ, hl, hs, p, e, q⟩ => ?_, fun ρ p e => ?_⟩
  · obtain ⟨d, e1, rfl⟩ := mpd e
    obtain ⟨v, ev⟩ := hs.slotV hl e1
    exact ⟨v, ev, q v H (fun j z => by cases z; exact ev) hs.skip⟩
  · obtain ⟨d, e1, rfl⟩ := mpd e
    rfl
theorem pxg_nil : PXG X [] .nil (fun ρ => some ([], ρ)) := ⟨pa_imp pa_nil fun σ H Q ⟨Gf, N, ts, ρ, hl, hs, p, e, q⟩ => by cases e; exact q [] _ trivial hs, fun ρ p e => by cases e; rfl⟩
theorem pxg_cons {x : A} {as : As} {ex : Env → Option (Option D × Env)} {er : Env → Option (List (Option D) × Env)} (ha : PX1 X a x ex) (hr : PXG X es as er) (hs : starEach (a :: es) X.env = (false, eval a X.env) :: starEach es X.env) :
    PXG X (a :: es) (.cons x as) (fun ρ => (ex ρ).bind fun p => (er p.2).map fun q => (p.1 :: q.1, q.2)) := by
  refine ⟨pa_imp (pa_cons ha.pe hr.pa hs) fun σ H Q ⟨Gf, N, ts, ρ, hl, hs, p, e, q⟩ => ?_, fun ρ p e => ?_⟩
  · obtain ⟨pa, e1, e⟩ := bnd e
    obtain ⟨pr, e2, rfl⟩ := mpd e
    refine ⟨Gf, N, ts, ρ, hl, hs, pa, e1, fun v H1 rf h1 => ⟨Gf, N, (some v, pa.1) :: ts, pa.2, by rw [ha.ln _ _ e1]; exact hl, h1, pr, e2, fun vs H2 r2 h2 => ?_⟩⟩
    refine q (v :: vs) H2 ?_ (SR.toFront h2)
    cases x with
    | val x => exact r2
    | ref i => exact ⟨rf i rfl, r2⟩
  · obtain ⟨pa, e1, e⟩ := bnd e
    obtain ⟨pr, e2, rfl⟩ := mpd e
    show pr.2.length = _
    rw [hr.ln _ _ e2, ha.ln _ _ e1]
theorem tmps_nil_append {K : PySem.W.Frag} {H Gf : Hp} {N : List Addr} {rs : List Root} (h : SR K Gf N H (rs ++ [])) : SR K Gf N H rs := by rwa [List.append_nil] at h
/-- the callee, from the arguments' roots -/
theorem call_sp {K : PySem.W.Frag} {H Gf : Hp} {N : List Addr} {rs : List Root} {vs : List V} {ds : List D} {n : Nat} {φ : List D → Option (D × List (Option D))} {ψ : List D → Option (Exn × List (Option D))} {r : D × List (Option D)} {Q : VK} {E : XK}
    (h : SR K Gf N H (tmps vs ds ++ rs)) (hl : vs.length = ds.length) (hn : vs.length = n) (e : φ ds = some r) (q : ∀ v H', SR K Gf N H' (tmp v r.1 :: (rootsA vs r.2 ++ rs)) → Q v H') : spOf K n φ ψ vs H Q E := by
  obtain ⟨Gf', N', h1, f⟩ := h.frame
  exact ⟨Gf', N', ds, hl, hn, h1, .inl ⟨r, e, fun v H' h2 => q v H' (f H' _ h2)⟩⟩
theorem call_spX {K : PySem.W.Frag} {H Gf : Hp} {N : List Addr} {rs : List Root} {vs : List V} {ds : List D} {n : Nat} {φ : List D → Option (D × List (Option D))} {ψ : List D → Option (Exn × List (Option D))} {r : Exn × List (Option D)} {Q : VK} {E : XK}
    (h : SR K Gf N H (tmps vs ds ++ rs)) (hl : vs.length = ds.length) (hn : vs.length = n) (e : ψ ds = some r) (q : ∀ cls d H', XSR K Gf N H' cls d r.1 (rootsA vs r.2 ++ rs) → E cls d H') : spOf K n φ ψ vs H Q E := by
  obtain ⟨Gf', N', h1, f⟩ := h.frame
  exact ⟨Gf', N', ds, hl, hn, h1, .inr ⟨r, e, fun cls d H' h2 => q cls d H' (h2.imp fun ts h3 => by rw [← List.append_assoc]; exact f H' _ h3)⟩⟩
def callE (φ : List D → Option (D × List (Option D))) (as : As) (er : Env → Option (List (Option D) × Env)) : Env → Option (D × Env) := fun ρ => (er ρ).bind fun p => (takeA as p.1 p.2).bind fun q => (φ q.1).bind fun r => (putA as r.2 q.2).map fun ρ' => (r.1, ρ')
theorem takeA_len : ∀ {as : As} {ods : List (Option D)} {ρ : Env} {p : List D × Env}, takeA as ods ρ = some p → p.2.length = ρ.length
  | .nil, [], ρ, p, e => by simp only [takeA] at e; cases e; rfl
  | .nil, _ :: _, _, _, e => by simp [takeA] at e
  | .cons (.val _) as, [], _, _, e => by simp [takeA] at e
  | .cons (.ref _) as, [], _, _, e => by simp [takeA] at e
  | .cons (.val _) as, none :: _, _, _, e => by simp [takeA] at e
  | .cons (.ref _) as, some _ :: _, _, _, e => by simp [takeA] at e
  | .cons (.val _) as, some d :: ds, ρ, p, e => by
    simp only [takeA] at e
    obtain ⟨q, e1, rfl⟩ := mpd e
    have := takeA_len (as := as) e1
    exact this
  | .cons (.ref i) as, none :: ds, ρ, p, e => by
    simp only [takeA] at e
    obtain ⟨d, _, e⟩ := bnd e
    obtain ⟨q, e1, rfl⟩ := mpd e
    show q.2.length = _
    rw [takeA_len (as := as) e1, len_set]
theorem putA_len : ∀ {as : As} {os : List (Option D)} {ρ ρ' : Env}, putA as os ρ = some ρ' → ρ'.length = ρ.length
  | .nil, [], ρ, p, e => by simp only [putA] at e; cases e; rfl
  | .nil, _ :: _, _, _, e => by simp [putA] at e
  | .cons (.val _) as, [], _, _, e => by simp [putA] at e
  | .cons (.ref _) as, [], _, _, e => by simp [putA] at e
  | .cons (.ref _) as, none :: _, _, _, e => by simp [putA] at e
  | .cons (.val _) as, o :: os, ρ, p, e => by
    simp only [putA] at e
    exact putA_len (as := as) e
  | .cons (.ref i) as, some d :: os, ρ, p, e => by
    simp only [putA] at e
    rw [putA_len (as := as) e, len_set]
theorem callE_ln {φ : List D → Option (D × List (Option D))} {as : As} {er : Env → Option (List (Option D) × Env)} (lr : Ln er) : Ln (callE φ as er) := fun ρ p e => by
  obtain ⟨pr, e1, e⟩ := bnd e
  obtain ⟨⟨ds, ρ2⟩, e2, e⟩ := bnd e
  obtain ⟨r, e3, e⟩ := bnd e
  obtain ⟨ρ3, e4, rfl⟩ := mpd e
  show ρ3.length = _
  rw [putA_len e4]
  have := takeA_len e2
  rw [this]; exact lr _ _ e1
theorem px_callF {φ : List D → Option (D × List (Option D))} {ψ : List D → Option (Exn × List (Option D))} {n : Nat} {as : As} {er : Env → Option (List (Option D) × Env)} {E : XK} (hn : ∀ ds r, φ ds = some r → ds.length = n) (hr : PXG X es as er) (h : PE X e (tCall (spOf X.K n φ ψ) [] E (tArg X.K as er))) : PX X e (callE φ as er) := by
  refine ⟨pe_imp h fun σ H Q ⟨Gf, N, ts, ρ, hl, hs, p, e, q⟩ => ?_, callE_ln hr.ln⟩
  obtain ⟨pr, e1, e⟩ := bnd e
  obtain ⟨⟨ds, ρ2⟩, e2, e⟩ := bnd e
  obtain ⟨r, e3, e⟩ := bnd e
  obtain ⟨ρ3, e4, rfl⟩ := mpd e
  refine ⟨Gf, N, ts, ρ, hl, hs, pr, e1, fun vs H1 rf h1 => ?_⟩
  obtain ⟨h2, l, l2⟩ := take_ok h1 rf e2
  show spOf X.K n φ ψ (vs ++ []) H1 Q E
  rw [List.append_nil]
  refine call_sp h2 l (by rw [l]; exact hn _ _ e3) e3 fun v H' h3 => q v H' ?_
  have h4 : SR X.K Gf N H' (rootsA vs r.2 ++ ((tmp v r.1 :: ts) ++ σ.zip ρ2)) := SR.fromFront (r := tmp v r.1) h3
  exact (put_ok h4 (by rw [l2, hr.ln _ _ e1]; exact hl) rf e4).1
end
/-! ### shared values, len of a name -/
section
variable {X : Cx} {a e : Expr} {ea : Env → Option (D × Env)}
theorem px_shr (h : PX X a ea) : PX X a (fun ρ => (ea ρ).map fun p => (share p.1, p.2)) := by
  refine ⟨pe_imp h.pe fun σ H Q ⟨Gf, N, ts, ρ, hl, hs, p, e, q⟩ => ?_, fun ρ p e => ?_⟩
  · obtain ⟨p0, e1, rfl⟩ := mpd e
    exact ⟨Gf, N, ts, ρ, hl, hs, p0, e1, fun v H' h1 => q v H' h1.share1⟩
  · obtain ⟨p0, e1, rfl⟩ := mpd e
    exact h.ln ρ p0 e1
theorem asT_shr (ρ : Env) : asT (fun ρ => (ea ρ).map fun p => (share p.1, p.2)) ρ = asT ea ρ := by
  show ((ea ρ).map _).bind _ = (ea ρ).bind _
  cases ea ρ with
  | none => rfl
  | some p =>
    obtain ⟨d, r⟩ := p
    cases d <;> simp only [Option.map_some, Option.bind_some, share]
theorem pxt_shr (h : PXT X a (asT ea)) : PXT X a (asT fun ρ => (ea ρ).map fun p => (share p.1, p.2)) := PXT.cg h asT_shr
theorem pt_ifExp {c a b : Expr} {pos : Pos} {tA ta tb : TT} (hc : PT X c tA) (ha : PT X a ta) (hb : PT X b tb) : PT X (.IfExp c a b pos) (fun σ H Q => tA σ H fun d H1 => if d = true then ta σ H1 Q else tb σ H1 Q) := by
  refine ⟨fun pins s σ H Q I h => ?_⟩
  show wpAny _ _ (do if ← PySem.isTrue c X.env (eval c X.env) then PySem.isTrue a X.env (eval a X.env) else PySem.isTrue b X.env (eval b X.env)) _ _ _
  refine wpAny_bind (thn (hc.run pins s σ H _ I h) fun d s1 ⟨H1, I1, q1⟩ => ?_)
  cases d with
  | true => exact ha.run pins s1 σ H1 Q I1 q1
  | false => exact hb.run pins s1 σ H1 Q I1 q1
theorem pxt_ite {c a b : Expr} {pos : Pos} {ec eb : Env → Option (D × Env)} (hc : PXT X c (asT ec)) (lc : Ln ec) (ha : PXT X a (asT ea)) (hb : PXT X b (asT eb)) (la : Ln ea) (lb : Ln eb) : PXT X (.IfExp c a b pos) (asT (iteE ec ea eb)) := by
  refine ⟨pt_imp (pt_ifExp hc.pt ha.pt hb.pt) fun σ H Q ⟨Gf, N, ts, ρ, hl, hs, p, e, q⟩ => ?_, fun ρ p e => ?_⟩
  · obtain ⟨ρ', ⟨e1, e2⟩ | ⟨e1, e2⟩⟩ := iteE_some (asT_some e)
    · refine ⟨Gf, N, ts, ρ, hl, hs, (true, ρ'), asT_bl e1, fun H1 h1 => ?_⟩
      simp only [if_pos]
      exact ⟨Gf, N, ts, ρ', hl.trans (lc _ _ e1).symm, h1, p, asT_bl e2, q⟩
    · refine ⟨Gf, N, ts, ρ, hl, hs, (false, ρ'), asT_bl e1, fun H1 h1 => ?_⟩
      simp only [Bool.false_eq_true, if_false]
      exact ⟨Gf, N, ts, ρ', hl.trans (lc _ _ e1).symm, h1, p, asT_bl e2, q⟩
  · obtain ⟨ρ', ⟨e1, e2⟩ | ⟨e1, e2⟩⟩ := iteE_some (asT_some e)
    · have := la _ _ e2; have := lc _ _ e1; simp only at *; omega
    · have := lb _ _ e2; have := lc _ _ e1; simp only at *; omega
theorem px_lnv {i : Nat} (h : PE X e (tCB (rBl X.K .len) (tCons (tVar i) tNil))) : PX X e (fun ρ => (getS ρ i).bind fun d => (lenD d).map fun n => (n, ρ)) := by
  refine ⟨pe_imp h fun σ H Q ⟨Gf, N, ts, ρ, hl, hs, p, e, q⟩ => ?_, fun ρ p e => ?_⟩
  · obtain ⟨d, e1, e⟩ := bnd e
    obtain ⟨n, e2, rfl⟩ := mpd e
    obtain ⟨v, ev⟩ := hs.slotV hl e1
    have h1 := hs.take e1 ev
    refine ⟨v, ev, ?_⟩
    cases d <;> simp only [lenD, reduceCtorEq] at e2 <;> cases e2
    · obtain ⟨a, ys, rfl, c, l⟩ := h1.contV rfl
      refine ⟨a, ys, rfl, .inr c, ?_⟩
      rw [l]; exact q _ _ (hs.flat (.int _))
    · obtain ⟨a, ys, rfl, c, l⟩ := h1.contV rfl
      refine ⟨a, ys, rfl, .inl c.1, ?_⟩
      rw [l]; exact q _ _ (hs.flat (.int _))
  · obtain ⟨d, e1, e⟩ := bnd e
    obtain ⟨n, e2, rfl⟩ := mpd e
    rfl
end
/-! ### borrowing: a look at everything, as shared; what comes back leans on nothing -/
section
variable {K : PySem.W.Frag} {G G2 H H' Gf : Hp} {N : List Addr} {rs : List Root} {v : V} {d : D}
/-- what stands at an own address -/
def OwnO (o : HO) : Prop := (∃ vs, o = .lst vs) ∨ ∃ c dx fs, o = .ins c dx fs
mutual
theorem Rep.ownO : ∀ {v : V} {d : D} {F : List Addr}, Rep K G H v d F → ∀ a ∈ F, ∃ o, H a = some o ∧ OwnO o
  | _, _, _, .non => fun _ h => by simp at h
  | _, _, _, .bl b => fun _ h => by simp at h
  | _, _, _, .int i => fun _ h => by simp at h
  | _, _, _, .str x => fun _ h => by simp at h
  | _, _, _, .hole v => fun _ h => by simp at h
  | _, _, _, .dic s => fun _ h => by simp at h
  | _, _, _, .any v => fun _ h => by simp at h
  | _, _, _, .tup s r => Reps.ownO r
  | _, _, _, .lstF s r => fun _ h => by simp at h
  | _, _, _, .lstS s r => fun _ h => by simp at h
  | _, _, _, .lstO (a := a) s r => fun b h => by
    rcases List.mem_cons.mp h with e | h
    · subst e; exact ⟨_, s, .inl ⟨_, rfl⟩⟩
    · exact Reps.ownO r b h
  | _, _, _, .objS s l r => fun _ h => by simp at h
  | _, _, _, .objO (a := a) s l r => fun b h => by
    rcases List.mem_cons.mp h with e | h
    · subst e; exact ⟨_, s, .inr ⟨_, _, _, rfl⟩⟩
    · exact Reps.ownO r b h
theorem Reps.ownO : ∀ {vs : List V} {ds : List D} {F : List Addr}, Reps K G H vs ds F → ∀ a ∈ F, ∃ o, H a = some o ∧ OwnO o
  | _, _, _, .nil => fun _ h => by simp at h
  | _, _, _, .cons r t => fun b h => (List.mem_append.mp h).elim (fun z => Rep.ownO r b z) fun z => Reps.ownO t b z
end
theorem RepO.ownO {F : List Addr} (r : RepO K G H rs F) : ∀ a ∈ F, ∃ o, H a = some o ∧ OwnO o := by
  induction r with
  | nil => exact fun _ h => by simp at h
  | skip _ ih => exact ih
  | cons x _ ih => exact fun b h => (List.mem_append.mp h).elim (fun z => x.ownO b z) fun z => ih b z
mutual
theorem Rep.closed (hG : ∀ a vs, SqT K G a vs → SqT K G2 a vs) : ∀ {v : V} {d : D} {F : List Addr}, Rep K G H v d F → closedD d = true → Rep K G2 H v d F
  | _, _, _, .non, _ => .non
  | _, _, _, .bl b, _ => .bl b
  | _, _, _, .int i, _ => .int i
  | _, _, _, .str x, _ => .str x
  | _, _, _, .hole v, h => by simp [closedD] at h
  | _, _, _, .dic s, h => by simp [closedD] at h
  | _, _, _, .any v, h => by simp [closedD] at h
  | _, _, _, .tup s r, h => .tup (hG _ _ s) (Reps.closed hG r (by simpa [closedD] using h))
  | _, _, _, .lstF s r, h => by simp [closedD] at h
  | _, _, _, .lstS s r, h => by simp [closedD] at h
  | _, _, _, .lstO s r, h => .lstO s (Reps.closed hG r (by simpa [closedD] using h))
  | _, _, _, .objS s l r, h => by simp [closedD] at h
  | _, _, _, .objO s l r, h => .objO s l (Reps.closed hG r (by simpa [closedD] using h))
theorem Reps.closed (hG : ∀ a vs, SqT K G a vs → SqT K G2 a vs) : ∀ {vs : List V} {ds : List D} {F : List Addr}, Reps K G H vs ds F → closedL ds = true → Reps K G2 H vs ds F
  | _, _, _, .nil, _ => .nil
  | _, _, _, .cons r t, h => by
    simp only [closedL, Bool.and_eq_true] at h
    exact .cons (Rep.closed hG r h.1) (Reps.closed hG t h.2)
end
theorem RepO.view {F : List Addr} (le : Le G G2) : ∀ {σ : L2.St} {ρ : Env}, RepO K G H (σ.zip ρ) F → (∀ a ∈ F, G2 a = H a) → RepO K G2 H (σ.zip (viewD ρ)) [] := by
  intro σ
  induction σ generalizing F with
  | nil => intro ρ r _; simp only [List.zip_nil_left]; exact .nil
  | cons o σ ih =>
    intro ρ r h
    cases ρ with
    | nil => simp only [viewD, List.map_nil, List.zip_nil_right]; exact .nil
    | cons x ρ =>
      simp only [List.zip_cons_cons] at r
      cases r with
      | skip r => simp only [viewD, List.map_cons, List.zip_cons_cons, Option.map_none]; exact .skip (ih r h)
      | cons y r =>
        simp only [viewD, List.map_cons, List.zip_cons_cons, Option.map_some]
        exact RepO.cons (F1 := []) (F2 := []) (y.share le fun a ha => h a (List.mem_append_left _ ha)) (ih r fun a ha => h a (List.mem_append_right _ ha))
theorem SR.view {ts : List Root} {σ : L2.St} {ρ : Env} (h : SR K Gf N H (ts ++ σ.zip ρ)) : SR K H N H (σ.zip (viewD ρ)) := by
  obtain ⟨n, F, nd, r, g⟩ := h
  obtain ⟨F1, F2, rfl, _, r2⟩ := r.split
  refine ⟨fun a ha => ?_, [], by simp, ?_, fun a o e => hid_some.mpr ⟨by simp, e⟩⟩
  · obtain ⟨o, e⟩ := n a ha
    exact ⟨o, (hid_some.mp (g a o e)).2⟩
  · refine RepO.view (G := hid (F1 ++ F2 ++ N) H) (hid_mono fun a ha => ?_) r2 fun a ha => hid_out fun z => ?_
    · simp only [List.nil_append] at ha
      exact List.mem_append_right _ ha
    · simp only [List.nil_append] at z
      obtain ⟨o, e⟩ := n a z
      exact (hid_some.mp (g a o e)).1 (List.mem_append_right _ ha)
theorem SR.unview {rs' : List Root} (h : SR K Gf N H rs) (h' : SR K H N H' (tmp v d :: rs')) (hc : closedD d = true) : SR K Gf N H' (tmp v d :: rs) := by
  obtain ⟨n, F, nd, r, g⟩ := h
  obtain ⟨n', F', nd', r', g'⟩ := h'
  have up : ∀ a o, H a = some o → H' a = some o ∧ a ∉ F' := fun a o e => by
    have := hid_some.mp (g' a o e)
    exact ⟨this.2, this.1⟩
  have keep : ∀ a ∈ F, H' a = H a := fun a ha => by
    obtain ⟨o, e⟩ := r.dom a ha
    rw [e]; exact (up a o e).1
  cases r' with
  | @cons _ _ _ F1 F2 x _ =>
    have dj : ∀ a ∈ F1, a ∉ F := fun a ha z => by
      obtain ⟨o, e⟩ := r.dom a z
      exact (up a o e).2 (List.mem_append_left _ ha)
    refine ⟨n, F1 ++ F, List.nodup_append.mpr ⟨(List.nodup_append.mp nd').1, nd, fun a ha b hb e => dj a ha (e ▸ hb)⟩, .cons (x.closed (fun a vs s => ?_) hc) (r.mono (fun a o e => ?_) keep), fun a o e => ?_⟩
    · have tr : ∀ u : HO, hid (F1 ++ F2 ++ N) H' a = some u → ¬ OwnO u → hid (F1 ++ F ++ N) H' a = some u := fun u e no => by
        obtain ⟨z, e⟩ := hid_some.mp e
        refine hid_some.mpr ⟨fun q => ?_, e⟩
        simp only [List.mem_append, not_or] at z q
        rcases q with (q | q) | q
        · exact z.1.1 q
        · obtain ⟨o, e1, oo⟩ := r.ownO a q
          rw [← keep a q, e] at e1
          cases e1
          exact no oo
        · exact z.2 q
      rcases s with (s | ⟨o, s⟩) | s
      · exact .inl (.inl (tr _ s (by rintro (⟨_, z⟩ | ⟨_, _, _, z⟩) <;> cases z)))
      · exact .inl (.inr ⟨o, tr _ s (by rintro (⟨_, z⟩ | ⟨_, _, _, z⟩) <;> cases z)⟩)
      · exact .inr s
    · obtain ⟨z, e⟩ := hid_some.mp e
      obtain ⟨e', z'⟩ := up a o e
      refine hid_some.mpr ⟨fun q => ?_, e'⟩
      simp only [List.mem_append, not_or] at z q z'
      rcases q with (q | q) | q
      · exact z'.1 q
      · exact z.1 q
      · exact z.2 q
    · obtain ⟨z, e⟩ := hid_some.mp (g a o e)
      obtain ⟨e', z'⟩ := up a o e
      refine hid_some.mpr ⟨fun q => ?_, e'⟩
      simp only [List.mem_append, not_or] at q z'
      rcases q with q | q
      · exact z'.1 q
      · exact z q
end
section
variable {X : Cx} {a : Expr} {ea : Env → Option (D × Env)}
def borE (ea : Env → Option (D × Env)) : Env → Option (D × Env) := fun ρ => (ea (viewD ρ)).bind fun p => if closedD p.1 = true then some (p.1, ρ) else none
theorem borE_some {ρ : Env} {p : D × Env} (h : borE ea ρ = some p) : ∃ ρ', ea (viewD ρ) = some (p.1, ρ') ∧ closedD p.1 = true ∧ p.2 = ρ := by
  obtain ⟨q, e1, e⟩ := bnd h
  split at e
  · rename_i hc
    cases e
    exact ⟨q.2, e1, hc, rfl⟩
  · cases e
theorem view_len (ρ : Env) : (viewD ρ).length = ρ.length := by simp [viewD]
theorem px_bor (h : PX X a ea) : PX X a (borE ea) := by
  refine ⟨pe_imp h.pe fun σ H Q ⟨Gf, N, ts, ρ, hl, hs, p, e, q⟩ => ?_, fun ρ p e => ?_⟩
  · obtain ⟨ρ', e1, hc, e2⟩ := borE_some e
    refine ⟨H, N, [], viewD ρ, by rw [view_len]; exact hl, hs.view, _, e1, fun v H' h1 => q v H' ?_⟩
    rw [e2]
    exact hs.unview h1 hc
  · obtain ⟨ρ', e1, hc, e2⟩ := borE_some e
    rw [e2]
theorem pxt_bor (h : PXT X a (asT ea)) : PXT X a (asT (borE ea)) := by
  refine ⟨pt_imp h.pt fun σ H Q ⟨Gf, N, ts, ρ, hl, hs, p, e, q⟩ => ?_, fun ρ p e => ?_⟩
  · obtain ⟨ρ', e1, hc, e2⟩ := borE_some (asT_some e)
    refine ⟨H, N, [], viewD ρ, by rw [view_len]; exact hl, hs.view, (p.1, ρ'), asT_bl e1, fun H' h1 => q H' ?_⟩
    simp only at e2
    rw [e2]
    have h2 : SR X.K H N H' (tmp (.bl p.1) (.bl p.1) :: σ.zip ρ') := SR.flat h1 (.bl _)
    exact (hs.unview h2 rfl).drop
  · obtain ⟨ρ', e1, hc, e2⟩ := borE_some (asT_some e)
    simp only at e2
    rw [e2]
end
end FL

/-! F9: methods, making, what is walked, targets, comprehensions. -/
namespace FL
open PySem PySem.Spec PyProof.Rows L2 StX
theorem pe_any {X : Cx} {e : Expr} {t' : TE} (f : ∀ σ H Q, t' σ H Q → ∃ t, PE X e t ∧ t σ H Q) : PE X e t' := ⟨fun pins s σ H Q I q => by
  obtain ⟨t, h, q'⟩ := f σ H Q q
  exact h.run pins s σ H Q I q'⟩
theorem lookup_zip_none : ∀ {ns : List Str} {vs : List V} {m : Str}, ns.contains m = false → (ns.zip vs).lookup m = none
  | [], _, _, _ => rfl
  | _ :: _, [], _, _ => rfl
  | n :: ns, v :: vs, m, h => by
    simp only [List.contains_cons, Bool.or_eq_false_iff] at h
    simp only [List.zip_cons_cons, List.lookup, h.1]
    exact lookup_zip_none h.2
section
variable {X : Cx} {a b c e : Expr} {es rest : List Expr} {pos : Pos} {ea eb ec : Env → Option (D × Env)}
/-! ### methods -/
def methE (Φ : Fs) (ms : List ((Str × Str) × Nat)) (m : Str) (o : A) (as : As) (ex : Env → Option (Option D × Env)) (er : Env → Option (List (Option D) × Env)) : Env → Option (D × Env) := fun ρ =>
  (ex ρ).bind fun x => (recvD o x.1 x.2).bind fun s => (methD ms m s).bind fun f => (er x.2).bind fun p => (takeA (.cons o as) (x.1 :: p.1) p.2).bind fun q => (Φ f q.1).bind fun r => (putA (.cons o as) r.2 q.2).map fun ρ' => (r.1, ρ')
theorem methD_some {ms : List ((Str × Str) × Nat)} {m : Str} {s : D} {f : Nat} (h : methD ms m s = some f) : ∃ o c ns ds, s = .obj o c ns ds ∧ ns.contains m = false ∧ ((c, m), f) ∈ ms := by
  unfold methD at h
  split at h
  · rename_i o c ns ds
    split at h
    · cases h
    · rename_i hn
      obtain ⟨q, e1, rfl⟩ := mpd h
      have hm := List.mem_of_find?_eq_some e1
      have hp := List.find?_some e1
      have := of_decide_eq_true hp
      refine ⟨o, c, ns, ds, rfl, by simpa using hn, ?_⟩
      rw [← this]; exact hm
  · cases h
theorem recv_facts {K : PySem.W.Frag} {Gf H : Hp} {N : List Addr} {ts : List Root} {σ : L2.St} {ρ : Env} {x : A} {v : V} {ox : Option D} {o : Fl} {c : Str} {ns : List Str} {ds : List D}
    (h : SR K Gf N H ((some v, ox) :: (ts ++ σ.zip ρ))) (rf : ∀ i, x = .ref i → σ[i]? = some (some v)) (e : recvD x ox ρ = some (.obj o c ns ds)) : ∃ a dx vs, v = .ref a ∧ H a = some (.ins (He.ga K c) dx (ns.zip vs)) := by
  cases x with
  | val y =>
    have e' : ox = some (.obj o c ns ds) := e
    subst e'
    obtain ⟨a, vs, ev, ⟨_, dx, ea⟩, _⟩ := SR.contV (v := v) h rfl
    exact ⟨a, dx, vs, ev, ea⟩
  | ref i =>
    have e' : getS ρ i = some (.obj o c ns ds) := e
    have h1 := SR.take (SR.drop h) e' (rf i rfl)
    obtain ⟨a, vs, ev, ⟨_, dx, ea⟩, _⟩ := h1.contV rfl
    exact ⟨a, dx, vs, ev, ea⟩
theorem px_meth {Φ : Fs} {Ψ : Fx} {ms : List ((Str × Str) × Nat)} {m : Str} {o : A} {as : As} {ex : Env → Option (Option D × Env)} {er : Env → Option (List (Option D) × Env)} {ar : Nat → Nat} {E : XK} (hn : ∀ f ds r, Φ f ds = some r → ds.length = ar f)
    (ho : PX1 X a o ex) (hr : PXG X es as er)
    (h : ∀ c f, ((c, m), f) ∈ ms → PE X e (tMeth (He.ga X.K c) m (spOf X.K (ar f) (Φ f) (Ψ f)) [] E (fun σ H Q => ∃ Gf N ts ρ, σ.length = ρ.length ∧ SR X.K Gf N H (ts ++ σ.zip ρ) ∧ ∃ p, ex ρ = some p ∧ ∀ v H', (∀ i, o = .ref i → σ[i]? = some (some v)) → SR X.K Gf N H' ((some v, p.1) :: (ts ++ σ.zip p.2)) → Q v H') (tArg X.K as er))) :
    PX X e (methE Φ ms m o as ex er) := by
  refine ⟨pe_any fun σ H Q ⟨Gf, N, ts, ρ, hl, hs, p, e, q⟩ => ?_, fun ρ p e => ?_⟩
  · obtain ⟨x, e1, e⟩ := bnd e
    obtain ⟨s, e2, e⟩ := bnd e
    obtain ⟨f, e3, e⟩ := bnd e
    obtain ⟨pr, e4, e⟩ := bnd e
    obtain ⟨⟨ds, ρ2⟩, e5, e⟩ := bnd e
    obtain ⟨r, e6, e⟩ := bnd e
    obtain ⟨ρ3, e7, rfl⟩ := mpd e
    obtain ⟨fl, c, ns, xs, rfl, hm, mem⟩ := methD_some e3
    refine ⟨_, h c f mem, Gf, N, ts, ρ, hl, hs, x, e1, fun v H1 rf h1 => ?_⟩
    obtain ⟨a, dx, vs, ev, ea⟩ := recv_facts h1 rf e2
    refine ⟨a, dx, _, ev, ea, lookup_zip_none hm, Gf, N, (some v, x.1) :: ts, x.2, by rw [ho.ln _ _ e1]; exact hl, h1, pr, e4, fun us H2 rf2 h2 => ?_⟩
    have rfc : RefOk σ (.cons o as) (v :: us) := by
      cases o with
      | val y => exact rf2
      | ref i => exact ⟨rf i rfl, rf2⟩
    have h2' : SR X.K Gf N H2 (rootsA (v :: us) (x.1 :: pr.1) ++ (ts ++ σ.zip pr.2)) := SR.toFront (r := (some v, x.1)) h2
    obtain ⟨h3, l, l2⟩ := take_ok h2' rfc e5
    show spOf X.K (ar f) (Φ f) (Ψ f) (v :: (us ++ [])) H2 Q E
    rw [List.append_nil]
    refine call_sp h3 l (by rw [l]; exact hn _ _ _ e6) e6 fun w H' h4 => q w H' ?_
    have h5 : SR X.K Gf N H' (rootsA (v :: us) r.2 ++ ((tmp w r.1 :: ts) ++ σ.zip ρ2)) := SR.fromFront (r := tmp w r.1) h4
    exact (put_ok h5 (by rw [l2, hr.ln _ _ e4, ho.ln _ _ e1]; exact hl) rfc e7).1
  · obtain ⟨x, e1, e⟩ := bnd e
    obtain ⟨s, e2, e⟩ := bnd e
    obtain ⟨f, e3, e⟩ := bnd e
    obtain ⟨pr, e4, e⟩ := bnd e
    obtain ⟨⟨ds, ρ2⟩, e5, e⟩ := bnd e
    obtain ⟨r, e6, e⟩ := bnd e
    obtain ⟨ρ3, e7, rfl⟩ := mpd e
    show ρ3.length = _
    rw [putA_len e7]
    have := takeA_len e5
    rw [this, hr.ln _ _ e4]; exact ho.ln _ _ e1
/-! ### C(..) -/
def makeE (φ : List D → Option (D × List (Option D))) (c : Str) (as : As) (er : Env → Option (List (Option D) × Env)) : Env → Option (D × Env) := fun ρ => (er ρ).bind fun p => (takeA as p.1 p.2).bind fun q => (φ (.obj .own c [] [] :: q.1)).bind fun r => match r with
    | (.non, some d :: os) => (putA as os q.2).map fun ρ' => (d, ρ')
    | _ => none
theorem makeE_some {φ : List D → Option (D × List (Option D))} {c : Str} {as : As} {er : Env → Option (List (Option D) × Env)} {ρ : Env} {p : D × Env} (h : makeE φ c as er ρ = some p) :
    ∃ pr ds ρ2 os, er ρ = some pr ∧ takeA as pr.1 pr.2 = some (ds, ρ2) ∧ φ (.obj .own c [] [] :: ds) = some (.non, some p.1 :: os) ∧ putA as os ρ2 = some p.2 := by
  obtain ⟨pr, e1, h⟩ := bnd h
  obtain ⟨⟨ds, ρ2⟩, e2, h⟩ := bnd h
  obtain ⟨r, e3, h⟩ := bnd h
  split at h
  · obtain ⟨ρ3, e4, rfl⟩ := mpd h
    exact ⟨pr, ds, ρ2, _, e1, e2, e3, e4⟩
  · cases h
theorem px_make {φ : List D → Option (D × List (Option D))} {ψ : List D → Option (Exn × List (Option D))} {n : Nat} {c : Str} {as : As} {er : Env → Option (List (Option D) × Env)} {E : XK} (hn : ∀ ds r, φ ds = some r → ds.length = n) (hr : PXG X es as er)
    (h : PE X e (tMake (He.ga X.K c) (spOf X.K n φ ψ) [] E (tArg X.K as er))) : PX X e (makeE φ c as er) := by
  refine ⟨pe_imp h fun σ H Q ⟨Gf, N, ts, ρ, hl, hs, p, e, q⟩ => ?_, fun ρ p e => ?_⟩
  · obtain ⟨pr, ds, ρ2, os, e1, e2, e3, e4⟩ := makeE_some e
    refine ⟨Gf, N, ts, ρ, hl, hs, pr, e1, fun vs H1 rf h1 x dx nx ndx ne => ?_⟩
    obtain ⟨h2, l, l2⟩ := take_ok h1 rf e2
    have nx' : (upd H1 dx (.own x)) x = none := by rw [upd_ne (fun z => ne z.symm)]; exact nx
    have h3 := (h2.newX (o := .own x) ndx).newO (c := c) (dx := dx) nx'
    rw [List.append_nil]
    refine call_sp (vs := .ref x :: vs) (ds := .obj .own c [] [] :: ds) h3 (by simp [l]) (by simp only [List.length_cons]; rw [l]; have := hn _ _ e3; simpa using this) e3 fun v H' h4 => ⟨h4.isNon, q _ _ ?_⟩
    have h5 : SR X.K Gf N H' (tmp (.ref x) p.1 :: (rootsA vs os ++ (ts ++ σ.zip ρ2))) := SR.drop h4
    have h6 : SR X.K Gf N H' (rootsA vs os ++ ((tmp (.ref x) p.1 :: ts) ++ σ.zip ρ2)) := SR.fromFront (r := tmp (.ref x) p.1) h5
    exact (put_ok h6 (by rw [l2, hr.ln _ _ e1]; exact hl) rf e4).1
  · obtain ⟨pr, ds, ρ2, os, e1, e2, e3, e4⟩ := makeE_some e
    rw [putA_len e4]
    have := takeA_len e2
    rw [this]; exact hr.ln _ _ e1
end
/-! ### what is walked -/
def Walks (K : PySem.W.Frag) (J : L2.It) (cs : List Root) (ds : List D) : Prop := ∀ {Gf : Hp} {N : List Addr} {H : Hp} {rs : List Root} (i : Nat), SR K Gf N H (cs ++ rs) →
  (∀ d, ds[i]? = some d → J.go i H ∧ ∀ x H', J.yld i H x H' → SR K Gf N H' (tmp x d :: (cs ++ rs))) ∧ (ds.length ≤ i → J.stop i H)
/-- the same where what holds the items may change from turn to turn -/
def WalksG (K : PySem.W.Frag) (J : L2.It) (P : Nat → List Root → Prop) (ds : List D) : Prop := ∀ {Gf : Hp} {N : List Addr} {H : Hp} {rs : List Root} (i : Nat) (cs : List Root), P i cs → SR K Gf N H (cs ++ rs) →
  (∀ d, ds[i]? = some d → J.go i H ∧ ∀ x H', J.yld i H x H' → ∃ cs', P (i + 1) cs' ∧ SR K Gf N H' (tmp x d :: (cs' ++ rs))) ∧ (ds.length ≤ i → J.stop i H)
theorem Walks.gen {K : PySem.W.Frag} {J : L2.It} {cs : List Root} {ds : List D} (h : Walks K J cs ds) : WalksG K J (fun _ c => c = cs) ds := fun i c e hs => by
  subst e
  obtain ⟨h1, h2⟩ := h i hs
  exact ⟨fun d ed => ⟨(h1 d ed).1, fun x H' y => ⟨c, rfl, (h1 d ed).2 x H' y⟩⟩, h2⟩
section
variable {K : PySem.W.Frag} {G H G' H' Gf : Hp} {N : List Addr} {rs : List Root} {v w : V} {d e : D}
theorem SR.peek (h : SR K Gf N H (tmp v d :: rs)) (hs : share d = d) (hc : isCont d = true) : ∃ (a : Addr) (vs : List V), v = .ref a ∧ Cont K H a vs d ∧ vs.length = (itemsD d).length ∧ ∀ (j : Nat) (x : D), (itemsD d)[j]? = some x → ∃ u : V, vs[j]? = some u ∧ SR K Gf N H (tmp u x :: tmp v d :: rs) := by
  obtain ⟨n, F, nd, r, g⟩ := h
  cases r with
  | cons y r =>
    rename_i Fy F2
    have e := y.sharedF hs
    subst e
    obtain ⟨a, vs, F0, F1, e, eF, c, q, _, mk⟩ := y.cont hid_le hc
    have e0 : F1 = [] := (List.append_eq_nil_iff.mp eF.symm).2
    subst e0
    refine ⟨a, vs, e, c, q.length, fun j x hj => ?_⟩
    obtain ⟨u, A, B, C, eu, e1, qq⟩ := q.get hj
    have eB : B = [] := (List.append_eq_nil_iff.mp (List.append_eq_nil_iff.mp e1.symm).2).1
    subst eB
    exact ⟨u, eu, n, [] ++ ([] ++ F2), nd, RepO.cons (F1 := []) qq (RepO.cons (F1 := []) y r), g⟩
theorem get_of_len {α β : Type} {xs : List α} {ys : List β} {i : Nat} (h : xs.length = ys.length) (hi : ys.length ≤ i) : xs.length ≤ i := by omega
theorem walks_list {f : Fl} {xs : List D} {a : Addr} (hs : share (.lst f xs) = .lst f xs) : Walks K (Itl K a) [tmp (.ref a) (.lst f xs)] xs := by
  intro Gf N H rs i h
  obtain ⟨a', vs, ev, c, l, p⟩ := SR.peek (v := .ref a) h hs rfl
  cases ev
  refine ⟨fun d hd => ?_, fun hi => ⟨vs, c.1, get_of_len l hi⟩⟩
  obtain ⟨u, eu, h2⟩ := p i d hd
  refine ⟨⟨vs, u, c.1, eu⟩, fun x H' y => ?_⟩
  obtain ⟨rfl, y⟩ := y
  have := y vs c.1
  rw [eu] at this
  cases this
  exact h2
theorem walks_tup {xs : List D} {a : Addr} (hs : share (.tup xs) = .tup xs) : Walks K (Itt K a) [tmp (.ref a) (.tup xs)] xs := by
  intro Gf N H rs i h
  obtain ⟨a', vs, ev, c, l, p⟩ := SR.peek (v := .ref a) h hs rfl
  cases ev
  refine ⟨fun d hd => ?_, fun hi => ⟨vs, c, get_of_len l hi⟩⟩
  obtain ⟨u, eu, h2⟩ := p i d hd
  refine ⟨⟨vs, u, c, eu⟩, fun x H' y => ?_⟩
  obtain ⟨rfl, y⟩ := y
  have := y vs c
  rw [eu] at this
  cases this
  exact h2
theorem rngL_get {lo : Int} {n i : Nat} {d : D} (h : (rngL lo n)[i]? = some d) : i < n ∧ d = .int (lo + (i : Int)) := by
  unfold rngL at h
  rw [List.getElem?_map] at h
  obtain ⟨k, e1, e2⟩ := mpd h
  have hi : i < n := by
    have := (List.getElem?_eq_some_iff.mp e1).1
    simpa using this
  rw [List.getElem?_range hi] at e1
  cases e1
  exact ⟨hi, e2.symm⟩
theorem walks_rng {lo : Int} {n : Nat} : Walks K (Itr lo n) [] (rngL lo n) := by
  intro Gf N H rs i h
  refine ⟨fun d hd => ?_, fun hi => show n ≤ i by simpa [rngL] using hi⟩
  obtain ⟨hi, rfl⟩ := rngL_get hd
  refine ⟨hi, fun x H' y => ?_⟩
  obtain ⟨rfl, rfl⟩ := y
  exact h.flat (.int _)
theorem zipL_get : ∀ {xs ys : List D} {i : Nat} {d : D}, (zipL xs ys)[i]? = some d → ∃ x y, xs[i]? = some x ∧ ys[i]? = some y ∧ d = .tup [x, y]
  | [], _, _, _, h => by simp [zipL] at h
  | _ :: _, [], _, _, h => by simp [zipL] at h
  | x :: xs, y :: ys, 0, d, h => by simp [zipL] at h; exact ⟨x, y, rfl, rfl, h.symm⟩
  | x :: xs, y :: ys, i + 1, d, h => by
    obtain ⟨a, b, h1, h2, h3⟩ := zipL_get (xs := xs) (ys := ys) (i := i) (by simpa [zipL] using h)
    exact ⟨a, b, by simpa using h1, by simpa using h2, h3⟩
theorem zipL_len : ∀ (xs ys : List D), (zipL xs ys).length = min xs.length ys.length
  | [], _ => by simp [zipL]
  | _ :: _, [] => by simp [zipL]
  | x :: xs, y :: ys => by simp [zipL, zipL_len xs ys]
theorem enumL_get : ∀ {xs : List D} {k i : Nat} {d : D}, (enumL k xs)[i]? = some d → ∃ x, xs[i]? = some x ∧ d = .tup [.int ((k + i : Nat) : Int), x]
  | [], _, _, _, h => by simp [enumL] at h
  | x :: xs, k, 0, d, h => by simp [enumL] at h; exact ⟨x, rfl, by rw [← h]; simp⟩
  | x :: xs, k, i + 1, d, h => by
    obtain ⟨a, h1, h2⟩ := enumL_get (xs := xs) (k := k + 1) (i := i) (by simpa [enumL] using h)
    exact ⟨a, by simpa using h1, by rw [h2]; congr 3; omega⟩
theorem enumL_len : ∀ (k : Nat) (xs : List D), (enumL k xs).length = xs.length
  | _, [] => rfl
  | k, x :: xs => by simp [enumL, enumL_len (k + 1) xs]
theorem walks_zip {f g : Fl} {xs ys : List D} {a b : Addr} (hs : share (.lst f xs) = .lst f xs) (ht : share (.lst g ys) = .lst g ys) : Walks K (Itz K a b) [tmp (.ref a) (.lst f xs), tmp (.ref b) (.lst g ys)] (zipL xs ys) := by
  intro Gf N H rs i h
  obtain ⟨a', vs, ev, c, l, p⟩ := SR.peek (v := .ref a) h hs rfl
  cases ev
  have h' : SR K Gf N H (tmp (.ref b) (.lst g ys) :: tmp (.ref a) (.lst f xs) :: rs) := SR.swap2 h
  obtain ⟨b', ws, ev, c', l', p'⟩ := SR.peek (v := .ref b) h' ht rfl
  cases ev
  refine ⟨fun d hd => ?_, fun hi => ?_⟩
  · obtain ⟨x, y, hx, hy, rfl⟩ := zipL_get hd
    obtain ⟨u, eu, h2⟩ := p i x hx
    obtain ⟨u', eu', h2'⟩ := p' i y hy
    refine ⟨⟨vs, ws, u, u', c.1, c'.1, eu, eu'⟩, fun z H' yy => ?_⟩
    obtain ⟨T, x1, x2, rfl, nT, rfl, f1, f2⟩ := yy
    have e1 := f1 vs c.1
    have e2 := f2 ws c'.1
    rw [eu] at e1; cases e1
    rw [eu'] at e2; cases e2
    have h3 : SR K Gf N H (tmp (.ref b) (.lst g ys) :: tmp u x :: tmp (.ref a) (.lst f xs) :: rs) := h2.perm ((List.Perm.cons _ (.swap _ _ _)).trans (.swap _ _ _))
    obtain ⟨b2, ws2, ev2, c2, l2, p2⟩ := SR.peek (v := .ref b) h3 ht rfl
    cases ev2
    obtain ⟨u2, eu2, h4⟩ := p2 i y hy
    have : ws2[i]? = some u' := f2 ws2 c2.1
    rw [eu2] at this; cases this
    have h5 : SR K Gf N H (tmps [u, u'] [x, y] ++ ([tmp (.ref a) (.lst f xs), tmp (.ref b) (.lst g ys)] ++ rs)) := by
      refine h4.perm ?_
      show (tmp u' y :: tmp (.ref b) (.lst g ys) :: tmp u x :: tmp (.ref a) (.lst f xs) :: rs).Perm (tmp u x :: tmp u' y :: tmp (.ref a) (.lst f xs) :: tmp (.ref b) (.lst g ys) :: rs)
      refine (List.Perm.cons _ (.swap _ _ _)).trans ((List.Perm.swap _ _ _).trans (.cons _ (.cons _ (.swap _ _ _))))
    exact h5.newT rfl nT
  · rw [zipL_len] at hi
    have l1 : vs.length = xs.length := l
    have l2 : ws.length = ys.length := l'
    exact ⟨vs, ws, c.1, c'.1, by rw [l1, l2]; omega⟩
theorem walks_enum {f : Fl} {xs : List D} {a : Addr} (hs : share (.lst f xs) = .lst f xs) : Walks K (Ite K a) [tmp (.ref a) (.lst f xs)] (enumL 0 xs) := by
  intro Gf N H rs i h
  obtain ⟨a', vs, ev, c, l, p⟩ := SR.peek (v := .ref a) h hs rfl
  cases ev
  refine ⟨fun d hd => ?_, fun hi => ⟨vs, c.1, get_of_len l (by rw [enumL_len] at hi; exact hi)⟩⟩
  obtain ⟨x, hx, rfl⟩ := enumL_get hd
  obtain ⟨u, eu, h2⟩ := p i x hx
  refine ⟨⟨vs, u, c.1, eu⟩, fun z H' yy => ?_⟩
  obtain ⟨T, x1, rfl, nT, rfl, f1⟩ := yy
  have e1 := f1 vs c.1
  rw [eu] at e1; cases e1
  have h5 : SR K Gf N H (tmps [.int (i : Nat), u] [.int ((0 + i : Nat) : Int), x] ++ ([tmp (.ref a) (.lst f xs)] ++ rs)) := by
    rw [Nat.zero_add]
    exact h2.flat (.int _)
  exact h5.newT rfl nT
end
end FL

/-! F10: iterators' readings, targets, comprehensions. -/
namespace FL
open PySem PySem.Spec PyProof.Rows L2 StX
def tIt (K : PySem.W.Frag) (ev : Env → Option (List D × Env)) : TI := fun σ H R => ∃ Gf N ts ρ, σ.length = ρ.length ∧ SR K Gf N H (ts ++ σ.zip ρ) ∧ ∃ p, ev ρ = some p ∧ ∀ J P cs H', WalksG K J P p.1 → P 0 cs → SR K Gf N H' (cs ++ (ts ++ σ.zip p.2)) → R J H'
structure PXI (X : Cx) (tg it : Expr) (ev : Env → Option (List D × Env)) : Prop where
  pi : PI X tg it (tIt X.K ev)
  ln : Ln ev
theorem pi_any {X : Cx} {tg it : Expr} {t' : TI} (f : ∀ σ H R, t' σ H R → ∃ t, PI X tg it t ∧ t σ H R) : PI X tg it t' := ⟨fun pins s σ H R I q => by
  obtain ⟨t, h, q'⟩ := f σ H R q
  exact h.run pins s σ H R I q'⟩
section
variable {X : Cx} {a b c e tg : Expr} {es rest : List Expr} {pos : Pos} {ea eb ec : Env → Option (D × Env)}
def seqE (ea : Env → Option (D × Env)) : Env → Option (List D × Env) := fun ρ => (ea ρ).bind fun p => match p.1 with
    | .lst _ xs => some (shares xs, p.2)
    | .tup xs => some (shares xs, p.2)
    | _ => none
theorem pxi_seq (ha : PX X a ea) (h1 : PI X tg a (iList X.K (tI X.K ea))) (h2 : PI X tg a (iTup X.K (tI X.K ea))) : PXI X tg a (seqE ea) := by
  refine ⟨pi_any fun σ H Q ⟨Gf, N, ts, ρ, hl, hs, p, e, q⟩ => ?_, fun ρ p e => ?_⟩
  · obtain ⟨⟨d, ρ'⟩, e1, e⟩ := bnd e
    cases d with
    | lst f xs =>
      cases e
      refine ⟨_, h1, Gf, N, ts, ρ, hl, hs, _, e1, fun x H1 h => ?_⟩
      obtain ⟨a, vs, ev, cc, l⟩ := h.contV rfl
      have h' := h.share1
      rw [share_lst] at h'
      subst ev
      exact ⟨a, rfl, ⟨vs, cc.1⟩, q _ _ _ _ (Walks.gen (walks_list (by simp [share, Fl.sh_sh, shares_shares]))) rfl h'⟩
    | tup xs =>
      cases e
      refine ⟨_, h2, Gf, N, ts, ρ, hl, hs, _, e1, fun x H1 h => ?_⟩
      obtain ⟨a, vs, ev, cc, l⟩ := h.contV rfl
      have h' := h.share1
      rw [share_tup] at h'
      subst ev
      exact ⟨a, rfl, ⟨vs, cc⟩, q _ _ _ _ (Walks.gen (walks_tup (by simp [share, shares_shares]))) rfl h'⟩
    | _ => cases e
  · obtain ⟨⟨d, ρ'⟩, e1, e⟩ := bnd e
    cases d <;> simp only [reduceCtorEq] at e <;> (cases e; exact ha.ln _ _ e1)
noncomputable def rngE (ea : Env → Option (D × Env)) : Env → Option (List D × Env) := fun ρ => (ea ρ).bind fun p => match p.1 with
    | .int n => @ite _ (-(2 ^ 62) ≤ n ∧ n < 2 ^ 62) (Classical.propDecidable _) (some (rngL 0 n.toNat, p.2)) none
    | _ => none
theorem pi_imp {tg it : Expr} {t t' : TI} (h : PI X tg it t) (f : ∀ σ H R, t' σ H R → t σ H R) : PI X tg it t' := ⟨fun pins s σ H R I q => h.run pins s σ H R I (f σ H R q)⟩
theorem pxi_rng (la : Ln ea) (h : PI X tg e (iRng1 (tCons (tI X.K ea) tNil))) : PXI X tg e (rngE ea) := by
  refine ⟨pi_imp h fun σ H Q ⟨Gf, N, ts, ρ, hl, hs, p, e, q⟩ => ?_, fun ρ p e => ?_⟩
  · obtain ⟨⟨d, ρ'⟩, e1, e⟩ := bnd e
    cases d with
    | int n =>
      simp only at e
      split at e
      · rename_i hn
        cases e
        refine ⟨Gf, N, ts, ρ, hl, hs, _, e1, fun x H1 h => ⟨n, by rw [h.isInt], hn.1, hn.2, q _ _ [] _ (Walks.gen walks_rng) rfl h.drop⟩⟩
      · cases e
    | _ => cases e
  · obtain ⟨⟨d, ρ'⟩, e1, e⟩ := bnd e
    cases d with
    | int n =>
      simp only at e
      split at e
      · cases e; exact la _ _ e1
      · cases e
    | _ => cases e
noncomputable def rng2E (ea eb : Env → Option (D × Env)) : Env → Option (List D × Env) := fun ρ => (ea ρ).bind fun p => (eb p.2).bind fun q => match p.1, q.1 with
    | .int i, .int j => @ite _ (-(2 ^ 62) ≤ i ∧ i < 2 ^ 62 ∧ -(2 ^ 62) ≤ j ∧ j < 2 ^ 62) (Classical.propDecidable _) (some (rngL i (j - i).toNat, q.2)) none
    | _, _ => none
theorem rng2E_some {ρ : Env} {p : List D × Env} (h : rng2E ea eb ρ = some p) : ∃ i j ρ1, ea ρ = some (.int i, ρ1) ∧ eb ρ1 = some (.int j, p.2) ∧ (-(2 ^ 62) ≤ i ∧ i < 2 ^ 62 ∧ -(2 ^ 62) ≤ j ∧ j < 2 ^ 62) ∧ p.1 = rngL i (j - i).toNat := by
  obtain ⟨⟨d, ρ1⟩, e1, h⟩ := bnd h
  obtain ⟨⟨d', ρ2⟩, e2, h⟩ := bnd h
  cases d <;> simp only [reduceCtorEq] at h
  cases d' <;> simp only [reduceCtorEq] at h
  split at h
  · cases h
    exact ⟨_, _, ρ1, e1, e2, by assumption, rfl⟩
  · cases h
theorem pxi_rng2 (la : Ln ea) (lb : Ln eb) (h : PI X tg e (iRng2 (tCons (tI X.K ea) (tCons (tI X.K eb) tNil)))) : PXI X tg e (rng2E ea eb) := by
  refine ⟨pi_imp h fun σ H Q ⟨Gf, N, ts, ρ, hl, hs, ⟨ds, ρ'⟩, e, q⟩ => ?_, fun ρ p e => ?_⟩
  · obtain ⟨i, j, ρ1, e1, e2, hc, e3⟩ := rng2E_some e
    have e3 : ds = _ := e3
    subst e3
    exact ⟨Gf, N, ts, ρ, hl, hs, _, e1, fun x H1 h1 => ⟨Gf, N, tmp x (.int i) :: ts, ρ1, hl.trans (la _ _ e1).symm, h1, _, e2, fun y H2 h2 => ⟨i, j, by rw [SR.isInt (v := x) h2.swap2, h2.isInt], hc, q _ _ [] _ (Walks.gen walks_rng) rfl (SR.drop (SR.drop h2))⟩⟩⟩
  · obtain ⟨i, j, ρ1, e1, e2, hc, e3⟩ := rng2E_some e
    rw [lb _ _ e2]; exact la _ _ e1
def zipE (ea eb : Env → Option (D × Env)) : Env → Option (List D × Env) := fun ρ => (ea ρ).bind fun p => (eb p.2).bind fun q => match p.1, q.1 with
    | .lst _ xs, .lst _ ys => some (zipL (shares xs) (shares ys), q.2)
    | _, _ => none
theorem zipE_some {ρ : Env} {p : List D × Env} (h : zipE ea eb ρ = some p) : ∃ f g xs ys ρ1, ea ρ = some (.lst f xs, ρ1) ∧ eb ρ1 = some (.lst g ys, p.2) ∧ p.1 = zipL (shares xs) (shares ys) := by
  obtain ⟨⟨d, ρ1⟩, e1, h⟩ := bnd h
  obtain ⟨⟨d', ρ2⟩, e2, h⟩ := bnd h
  cases d <;> simp only [reduceCtorEq] at h
  cases d' <;> simp only [reduceCtorEq] at h
  cases h
  exact ⟨_, _, _, _, ρ1, e1, e2, rfl⟩
theorem pxi_zip (la : Ln ea) (lb : Ln eb) (h : PI X tg e (iZip X.K (tCons (tI X.K ea) (tCons (tI X.K eb) tNil)))) : PXI X tg e (zipE ea eb) := by
  refine ⟨pi_imp h fun σ H Q ⟨Gf, N, ts, ρ, hl, hs, ⟨ds, ρ'⟩, e, q⟩ => ?_, fun ρ p e => ?_⟩
  · obtain ⟨f, g, xs, ys, ρ1, e1, e2, e3⟩ := zipE_some e
    have e3 : ds = _ := e3
    subst e3
    refine ⟨Gf, N, ts, ρ, hl, hs, _, e1, fun x H1 h1 => ⟨Gf, N, tmp x (.lst f xs) :: ts, ρ1, hl.trans (la _ _ e1).symm, h1, _, e2, fun y H2 h2 => ?_⟩⟩
    obtain ⟨b, ws, eb, cb, lb⟩ := h2.contV rfl
    obtain ⟨a, vs, ea, ca, la⟩ := SR.contV (v := x) h2.swap2 rfl
    have h3 := SR.share1 (v := x) h2.share1.swap2
    rw [share_lst, share_lst] at h3
    subst ea eb
    exact ⟨a, b, vs, ws, rfl, ca.1, cb.1, q _ _ _ _ (Walks.gen (walks_zip (by simp [share, Fl.sh_sh, shares_shares]) (by simp [share, Fl.sh_sh, shares_shares]))) rfl h3⟩
  · obtain ⟨f, g, xs, ys, ρ1, e1, e2, e3⟩ := zipE_some e
    rw [lb _ _ e2]; exact la _ _ e1
def enumE (ea : Env → Option (D × Env)) : Env → Option (List D × Env) := fun ρ => (ea ρ).bind fun p => match p.1 with
    | .lst _ xs => some (enumL 0 (shares xs), p.2)
    | _ => none
theorem pxi_enum (la : Ln ea) (h : PI X tg e (iEnum X.K (tCons (tI X.K ea) tNil))) : PXI X tg e (enumE ea) := by
  refine ⟨pi_imp h fun σ H Q ⟨Gf, N, ts, ρ, hl, hs, p, e, q⟩ => ?_, fun ρ p e => ?_⟩
  · obtain ⟨⟨d, ρ'⟩, e1, e⟩ := bnd e
    cases d with
    | lst f xs =>
      cases e
      refine ⟨Gf, N, ts, ρ, hl, hs, _, e1, fun x H1 h => ?_⟩
      obtain ⟨a, vs, ev, cc, l⟩ := h.contV rfl
      have h' := h.share1
      rw [share_lst] at h'
      subst ev
      exact ⟨a, vs, rfl, cc.1, q _ _ _ _ (Walks.gen (walks_enum (by simp [share, Fl.sh_sh, shares_shares]))) rfl h'⟩
    | _ => cases e
  · obtain ⟨⟨d, ρ'⟩, e1, e⟩ := bnd e
    cases d <;> simp only [reduceCtorEq] at e
    cases e; exact la _ _ e1
end
/-! ### targets -/
section
variable {K : PySem.W.Frag} {G H G' H' Gf : Hp} {N : List Addr} {rs ts : List Root} {v w : V} {d e : D}
theorem SR.untup {ds : List D} (h : SR K Gf N H (tmp v (.tup ds) :: rs)) : ∃ a vs, v = .ref a ∧ SqT K H a vs ∧ vs.length = ds.length ∧ SR K Gf N H (tmps vs ds ++ rs) := by
  obtain ⟨n, F, nd, r, g⟩ := h
  cases r with
  | cons y r =>
    cases y with
    | tup s q => exact ⟨_, _, rfl, SqT.le s hid_le, q.length, n, _, nd, (reps_tmps q).append r, g⟩
/-- what a target's store must give: the slots is change -/
def Same (is : List Nat) (σ σ' : L2.St) : Prop := σ'.length = σ.length ∧ ∀ i, i ∉ is → σ'[i]? = σ[i]?
theorem Same.refl (is : List Nat) (σ : L2.St) : Same is σ σ := ⟨rfl, fun _ _ => rfl⟩
theorem Same.trans {is : List Nat} {a b c : L2.St} (h : Same is a b) (g : Same is b c) : Same is a c := ⟨g.1.trans h.1, fun i hi => (g.2 i hi).trans (h.2 i hi)⟩
theorem Same.mono {is js : List Nat} {a b : L2.St} (h : Same is a b) (s : ∀ i ∈ is, i ∈ js) : Same js a b := ⟨h.1, fun i hi => h.2 i fun z => hi (s i z)⟩
theorem Same.set {is : List Nat} {σ : L2.St} {i : Nat} {o : Option V} (h : i ∈ is) : Same is σ (σ.set i o) := ⟨List.length_set, fun j hj => List.getElem?_set_ne fun (z : i = j) => hj (z ▸ h)⟩
def TgOk (K : PySem.W.Frag) (t : Tg) (g : TG) : Prop := ∀ {Gf : Hp} {N : List Addr} {H : Hp} {rs : List Root} {σ : L2.St} {ρ ρ' : Env} {v : V} {d : D} {Q : L2.St → Hp → Prop}, σ.length = ρ.length → SR K Gf N H (tmp v d :: (rs ++ σ.zip ρ)) → bindT t d ρ = some ρ' →
  (∀ σ' H', Same t.slots σ σ' → ρ'.length = ρ.length → SR K Gf N H' (rs ++ σ'.zip ρ') → Q σ' H') → g v σ H Q
theorem putS_some {ρ ρ' : Env} {i : Nat} (h : putS ρ i d = some ρ') : i < ρ.length ∧ ρ' = ρ.set i (some d) := by
  unfold putS at h
  split at h
  · cases h; exact ⟨by assumption, rfl⟩
  · cases h
theorem tg_name (i : Nat) : TgOk K (.name i) (gName i) := by
  intro Gf N H rs σ ρ ρ' v d Q hl h e q
  obtain ⟨hi, rfl⟩ := putS_some e
  exact q _ _ (.set (by simp [Tg.slots])) len_set (h.store hl hi)
def gNames : List Nat → TGs
  | [] => gNil
  | i :: is => gCons (gName i) (gNames is)
theorem tgs_ok : ∀ (is : List Nat) {Gf : Hp} {N : List Addr} {H : Hp} {rs : List Root} {σ : L2.St} {ρ ρ' : Env} {vs : List V} {ds : List D} {Q : L2.St → Hp → Prop}, σ.length = ρ.length → vs.length = ds.length → SR K Gf N H (tmps vs ds ++ (rs ++ σ.zip ρ)) → putAll ρ is ds = some ρ' →
    (∀ σ' H', Same is σ σ' → ρ'.length = ρ.length → SR K Gf N H' (rs ++ σ'.zip ρ') → Q σ' H') → gNames is vs σ H Q
  | [], _, _, _, _, _, _, _, [], [], _, hl, _, h, e, q => by
    simp only [putAll] at e
    cases e
    exact ⟨rfl, q _ _ (.refl _ _) rfl h⟩
  | [], _, _, _, _, _, _, _, _, _ :: _, _, _, _, _, e, _ => by simp [putAll] at e
  | _ :: _, _, _, _, _, _, _, _, _, [], _, _, _, _, e, _ => by simp [putAll] at e
  | [], _, _, _, _, _, _, _, _ :: _, [], _, _, l, _, _, _ => by simp at l
  | _ :: _, _, _, _, _, _, _, _, [], _ :: _, _, _, l, _, _, _ => by simp at l
  | i :: is, Gf, N, H, rs, σ, ρ, ρ', v :: vs, d :: ds, Q, hl, l, h, e, q => by
    simp only [putAll] at e
    obtain ⟨ρ1, e1, e2⟩ := bnd e
    obtain ⟨hi, rfl⟩ := putS_some e1
    refine ⟨v, vs, rfl, ?_⟩
    show gNames is vs (σ.set i (some v)) H Q
    have h1 : SR K Gf N H (tmp v d :: ((tmps vs ds ++ rs) ++ σ.zip ρ)) := by rw [List.append_assoc]; exact h
    have h2 := h1.store hl hi
    rw [List.append_assoc] at h2
    refine tgs_ok is (by rw [List.length_set, len_set]; exact hl) (by simpa using l) h2 e2 fun σ' H' s l' h3 => q σ' H' ?_ (by rw [l', len_set]) h3
    exact (Same.set (by simp)).trans (s.mono fun j hj => List.mem_cons_of_mem _ hj)
def gTL (K : PySem.W.Frag) (n : Nat) (t : TGs) : TG := fun v σ H Q => gTup K n t v σ H Q ∨ gUnl K n t v σ H Q
theorem tg_names (is : List Nat) : TgOk K (.names is) (gTL K is.length (gNames is)) := by
  intro Gf N H rs σ ρ ρ' v d Q hl h e q
  cases d with
  | tup ds =>
    simp only [bindT] at e
    split at e
    · rename_i hlen
      obtain ⟨a, vs, ev, sq, lv, h2⟩ := h.untup
      exact .inl ⟨a, vs, ev, sq, by rw [lv, hlen], tgs_ok is hl lv h2 e q⟩
    · cases e
  | lst f ds =>
    simp only [bindT] at e
    split at e
    · rename_i hlen
      obtain ⟨a, vs, ev, cc, lv, h2⟩ := h.items1 rfl
      have lv : vs.length = ds.length := lv
      exact .inr ⟨a, vs, ev, cc.1, by rw [lv, hlen], tgs_ok is hl (by rw [lv]; exact (shares_len ds).symm) h2 e q⟩
    · cases e
  | _ => simp only [bindT, reduceCtorEq] at e
def gT (K : PySem.W.Frag) : Tg → TG
  | .name i => gName i
  | .names is => gTL K is.length (gNames is)
theorem tg_ok (t : Tg) : TgOk K t (gT K t) := by
  cases t with
  | name i => exact tg_name i
  | names is => exact tg_names is
theorem bindT_len {t : Tg} {ρ ρ' : Env} (h : bindT t d ρ = some ρ') : ρ'.length = ρ.length := by
  have all : ∀ (is : List Nat) (ds : List D) (ρ ρ' : Env), putAll ρ is ds = some ρ' → ρ'.length = ρ.length := by
    intro is
    induction is with
    | nil => intro ds ρ ρ' h; cases ds <;> simp [putAll] at h; rw [h]
    | cons i is ih =>
      intro ds ρ ρ' h
      cases ds with
      | nil => simp [putAll] at h
      | cons d ds =>
        simp only [putAll] at h
        obtain ⟨ρ1, e1, e2⟩ := bnd h
        obtain ⟨_, rfl⟩ := putS_some e1
        rw [ih _ _ _ e2, len_set]
  cases t with
  | name i => obtain ⟨_, rfl⟩ := putS_some h; exact len_set
  | names is =>
    cases d <;> simp only [bindT, reduceCtorEq] at h
    · split at h
      · exact all _ _ _ _ h
      · cases h
    · split at h
      · exact all _ _ _ _ h
      · cases h
/-! ### wiping -/
theorem wipeD_len (ρ : Env) : ∀ vs : List Nat, (wipeD ρ vs).length = ρ.length
  | [] => rfl
  | v :: vs => by unfold wipeD; rw [List.length_set, wipeD_len ρ vs]
theorem wipeD_none {ρ : Env} : ∀ {vs : List Nat} {i : Nat}, i ∈ vs → i < ρ.length → (wipeD ρ vs)[i]? = some none
  | [], _, h, _ => by simp at h
  | v :: vs, i, h, hl => by
    unfold wipeD
    by_cases e : v = i
    · subst e
      rw [List.getElem?_set_self (by rw [wipeD_len]; exact hl)]
    · rw [List.getElem?_set_ne e]
      exact wipeD_none (by rcases List.mem_cons.mp h with z | z; exact absurd z.symm e; exact z) hl
theorem wipe_out {σ : L2.St} : ∀ {vs : List Nat} {i : Nat}, i ∉ vs → (wipe σ vs)[i]? = σ[i]?
  | [], _, _ => rfl
  | v :: vs, i, h => by
    simp only [List.mem_cons, not_or] at h
    unfold wipe
    rw [List.getElem?_set_ne fun z => h.1 z.symm]
    exact wipe_out h.2
theorem wipe_in {σ : L2.St} : ∀ {vs : List Nat} {i : Nat}, i ∈ vs → i < σ.length → (wipe σ vs)[i]? = some none
  | [], _, h, _ => by simp at h
  | v :: vs, i, h, hl => by
    unfold wipe
    by_cases e : v = i
    · subst e
      rw [List.getElem?_set_self (by rw [wipe_length]; exact hl)]
    · rw [List.getElem?_set_ne e]
      exact wipe_in (by rcases List.mem_cons.mp h with z | z; exact absurd z.symm e; exact z) hl
theorem wipe_eq {σ σ' : L2.St} {vs : List Nat} (h : Same vs σ σ') : wipe σ' vs = wipe σ vs := by
  apply List.ext_getElem?
  intro i
  by_cases hi : i ∈ vs
  · by_cases hl : i < σ.length
    · rw [wipe_in hi hl, wipe_in hi (by rw [h.1]; exact hl)]
    · rw [List.getElem?_eq_none (by rw [wipe_length, h.1]; omega), List.getElem?_eq_none (by rw [wipe_length]; omega)]
  · rw [wipe_out hi, wipe_out hi, h.2 i hi]
theorem Same.wipe {σ : L2.St} {vs : List Nat} : Same vs σ (wipe σ vs) := ⟨wipe_length _ _, fun i hi => wipe_out hi⟩
theorem Same.symm {σ σ' : L2.St} {vs : List Nat} (h : Same vs σ σ') : Same vs σ' σ := ⟨h.1.symm, fun i hi => (h.2 i hi).symm⟩
/-- the slots without a datum may hold anything -/
theorem RepO.slots : ∀ {σ σ' : L2.St} {ρ : Env} {F : List Addr}, RepO K G H (σ.zip ρ) F → σ'.length = σ.length → (∀ i : Nat, ρ[i]? = some none ∨ σ'[i]? = σ[i]?) → RepO K G H (σ'.zip ρ) F
  | [], [], _, _, r, _, _ => r
  | [], _ :: _, _, _, _, l, _ => by simp at l
  | _ :: _, [], _, _, _, l, _ => by simp at l
  | _ :: _, _ :: _, [], _, r, _, _ => by simpa using r
  | a :: σ, b :: σ', none :: ρ, F, r, l, h => by
    simp only [List.zip_cons_cons] at r ⊢
    cases r with
    | skip r => exact .skip (RepO.slots r (by simpa using l) fun i => by simpa using h (i + 1))
  | a :: σ, b :: σ', some d :: ρ, F, r, l, h => by
    simp only [List.zip_cons_cons] at r ⊢
    have h0 := h 0
    simp at h0
    subst h0
    cases r with
    | cons x r => exact .cons x (RepO.slots r (by simpa using l) fun i => by simpa using h (i + 1))
theorem SR.slots {σ σ' : L2.St} {ρ : Env} (h : SR K Gf N H (ts ++ σ.zip ρ)) (hl : σ'.length = σ.length) (hs : ∀ i : Nat, ρ[i]? = some none ∨ σ'[i]? = σ[i]?) : SR K Gf N H (ts ++ σ'.zip ρ) := by
  obtain ⟨n, F, nd, r, g⟩ := h
  obtain ⟨F1, F2, rfl, r1, r2⟩ := r.split
  exact ⟨n, F1 ++ F2, nd, r1.append (r2.slots hl hs), g⟩
theorem SR.wipes {σ : L2.St} {ρ : Env} (hl : σ.length = ρ.length) (h : SR K Gf N H (ts ++ σ.zip ρ)) : ∀ vs : List Nat, SR K Gf N H (ts ++ σ.zip (wipeD ρ vs))
  | [] => h
  | v :: vs => by
    unfold wipeD
    by_cases hv : v < σ.length
    · exact (SR.wipes hl h vs).forget hv
    · rw [List.set_eq_of_length_le (by rw [wipeD_len]; omega)]; exact SR.wipes hl h vs
end
end FL

/-! F11: comprehensions. -/
namespace FL
open PySem PySem.Spec PyProof.Rows L2 StX
def compE (t : Tg) (ei : Env → Option (List D × Env)) (ct : Env → Option (Bool × Env)) (ee : Env → Option (D × Env)) : Env → Option (D × Env) := fun ρ => (ei ρ).bind fun p => (compL (bindT t) ct ee t.slots p.1 (wipeD p.2 t.slots) []).map fun q => (.lst .own q.1, q.2)
theorem compL_len {t : Tg} {ct : Env → Option (Bool × Env)} {ee : Env → Option (D × Env)} (lc : Ln ct) (le : Ln ee) : ∀ {ds : List D} {ρ : Env} {acc : List D} {p : List D × Env}, compL (bindT t) ct ee t.slots ds ρ acc = some p → p.2.length = ρ.length
  | [], ρ, acc, p, h => by simp only [compL] at h; cases h; rfl
  | d :: ds, ρ, acc, p, h => by
    simp only [compL] at h
    obtain ⟨ρ1, e1, h⟩ := bnd h
    obtain ⟨⟨b, ρ2⟩, e2, h⟩ := bnd h
    cases b with
    | true =>
      obtain ⟨q, e3, h⟩ := bnd h
      split at h
      · rw [compL_len lc le h, wipeD_len, le _ _ e3]
        have := lc _ _ e2
        simp only at this
        rw [this, bindT_len e1]
      · cases h
    | false =>
      simp only at h
      rw [compL_len lc le h, wipeD_len]
      have := lc _ _ e2
      simp only at this
      rw [this, bindT_len e1]
section
variable {K : PySem.W.Frag}
theorem wiped_slots {σ σ2 : L2.St} {ρ : Env} {vs : List Nat} (s : Same vs (wipe σ vs) σ2) (hl : σ2.length = ρ.length) : ∀ i : Nat, (wipeD ρ vs)[i]? = some none ∨ (wipe σ vs)[i]? = σ2[i]? := fun i => by
  by_cases hi : i ∈ vs
  · by_cases hj : i < ρ.length
    · exact .inl (wipeD_none hi hj)
    · refine .inr ?_
      rw [List.getElem?_eq_none (by rw [← s.1]; omega), List.getElem?_eq_none (by omega)]
  · exact .inr (s.2 i hi).symm
theorem tI_comp {t : Tg} {ei : Env → Option (List D × Env)} {ct : Env → Option (Bool × Env)} {ee : Env → Option (D × Env)} (li : Ln ei) (lc : Ln ct) (le : Ln ee) {σ : L2.St} {H : Hp} {Q : VK} (h : tI K (compE t ei ct ee) σ H Q) :
    tLc (tIt K ei) (gT K t) (tIT K ct) (tI K ee) t.slots σ H Q := by
  obtain ⟨Gf, N, ts, ρ, hl, hs, p, e, q⟩ := h
  obtain ⟨⟨items, ρ0⟩, e1, e⟩ := bnd e
  obtain ⟨fin, e2, rfl⟩ := mpd e
  refine ⟨Gf, N, ts, ρ, hl, hs, _, e1, fun J P cs0 H1 wk hp0 h1 Dl hD => ?_⟩
  have l0 : ρ0.length = σ.length := (li _ _ e1).trans hl.symm
  have hcs : SR K Gf N H1 ((cs0 ++ ts) ++ σ.zip ρ0) := by rw [List.append_assoc]; exact h1
  have hw : SR K Gf N H1 ((cs0 ++ ts) ++ (wipe σ t.slots).zip (wipeD ρ0 t.slots)) :=
    (hcs.wipes l0.symm t.slots).slots (wipe_length _ _) fun i => by
      rcases wiped_slots (σ := σ) (σ2 := σ) (ρ := ρ0) (vs := t.slots) Same.wipe.symm l0.symm i with z | z
      · exact .inl z
      · exact .inr z
  have hn := SR.newL (vs := []) (ds := []) (p := Dl) hw rfl hD
  refine ⟨fun i m H' => m = items.length - i ∧ i ≤ items.length ∧ ∃ acc ρi cs, P i cs ∧ ρi.length = σ.length ∧ (∀ j ∈ t.slots, j < ρi.length → ρi[j]? = some none) ∧ SR K Gf N H' (tmp (.ref Dl) (.lst .own acc) :: ((cs ++ ts) ++ (wipe σ t.slots).zip ρi)) ∧ compL (bindT t) ct ee t.slots (items.drop i) ρi acc = some fin,
    ⟨items.length, by simp, Nat.zero_le _, [], _, cs0, hp0, by rw [wipeD_len]; exact l0, fun j hj hlt => wipeD_none hj (by rw [wipeD_len] at hlt; exact hlt), hn, by simpa using e2⟩, ?_⟩
  rintro i m H' ⟨rfl, hi, acc, ρi, cs, hp, lr, nn, hS, hC⟩
  have hS' : SR K Gf N H' (cs ++ ((tmp (.ref Dl) (.lst .own acc) :: ts) ++ (wipe σ t.slots).zip ρi)) := by
    rw [List.append_assoc] at hS
    exact SR.fromFront (r := tmp (.ref Dl) (.lst .own acc)) hS
  obtain ⟨wg, ws⟩ := wk i cs hp hS'
  by_cases hlt : i < items.length
  · refine .inr ?_
    have ed : items[i]? = some items[i] := List.getElem?_eq_getElem hlt
    rw [List.drop_eq_getElem_cons hlt] at hC
    simp only [compL] at hC
    obtain ⟨ρ1, e3, hC⟩ := bnd hC
    obtain ⟨⟨b, ρ2⟩, e4, hC⟩ := bnd hC
    obtain ⟨go, yl⟩ := wg _ ed
    refine ⟨go, fun H2 => ∃ acc ρi cs, P (i + 1) cs ∧ ρi.length = σ.length ∧ (∀ j ∈ t.slots, j < ρi.length → ρi[j]? = some none) ∧ SR K Gf N H2 (tmp (.ref Dl) (.lst .own acc) :: ((cs ++ ts) ++ (wipe σ t.slots).zip ρi)) ∧ compL (bindT t) ct ee t.slots (items.drop (i + 1)) ρi acc = some fin,
      fun H2 h2 => ⟨items.length - (i + 1), by omega, rfl, by omega, h2⟩, fun x H2 y => ?_⟩
    obtain ⟨cs', hp', h3⟩ := yl x H2 y
    have h3' : SR K Gf N H2 (tmp x items[i] :: ((cs' ++ (tmp (.ref Dl) (.lst .own acc) :: ts)) ++ (wipe σ t.slots).zip ρi)) := by rw [List.append_assoc]; exact h3
    refine tg_ok t (by rw [wipe_length]; exact lr.symm) h3' e3 fun σ2 H3 sm l1 h4 => ⟨?_, ?_⟩
    · rw [wipe_eq sm, wipe_eq Same.wipe]
    · have ls2 : σ2.length = ρ1.length := by rw [sm.1, wipe_length, l1, lr]
      refine ⟨Gf, N, _, ρ1, ls2, h4, (b, ρ2), e4, fun H4 h5 => ?_⟩
      have l2 : ρ2.length = ρ1.length := lc _ _ e4
      cases b with
      | true =>
        refine iteT ?_
        obtain ⟨⟨yd, ρ3⟩, e5, hC⟩ := bnd hC
        split at hC
        · rename_i hsz
          refine ⟨Gf, N, _, ρ2, ls2.trans l2.symm, h5, _, e5, fun u H5 h6 => ?_⟩
          have l3 : ρ3.length = ρ2.length := le _ _ e5
          have h7 : SR K Gf N H5 ((tmp u yd :: (cs' ++ (tmp (.ref Dl) (.lst .own acc) :: ts))) ++ σ2.zip (wipeD ρ3 t.slots)) := SR.wipes (by rw [ls2, l3, l2]) h6 t.slots
          have h8 : SR K Gf N H5 ((tmp u yd :: (cs' ++ (tmp (.ref Dl) (.lst .own acc) :: ts))) ++ (wipe σ t.slots).zip (wipeD ρ3 t.slots)) :=
            h7.slots sm.1.symm fun j => wiped_slots sm (by rw [ls2, l3, l2]) j
          have h9 : SR K Gf N H5 (tmp (.ref Dl) (.lst .own acc) :: tmp u yd :: ((cs' ++ ts) ++ (wipe σ t.slots).zip (wipeD ρ3 t.slots))) := by
            refine h8.perm ?_
            show (tmp u yd :: ((cs' ++ (tmp (.ref Dl) (.lst .own acc) :: ts)) ++ _)).Perm _
            refine (List.Perm.cons _ ?_).trans (.swap _ _ _)
            rw [List.append_assoc, List.append_assoc]
            exact List.perm_middle
          obtain ⟨vs, ev, lv, h10⟩ := h9.push
          refine ⟨vs, ev, by rw [lv, sizeLine_eq]; exact hsz, acc ++ [yd], _, cs', hp', by rw [wipeD_len, l3, l2, l1, lr], fun j hj hlt => wipeD_none hj (by rw [wipeD_len] at hlt; exact hlt), h10, hC⟩
        · cases hC
      | false =>
        refine iteF ?_
        have h7 := SR.wipes (by rw [ls2, l2]) h5 t.slots
        have h8 := h7.slots sm.1.symm fun j => wiped_slots sm (by rw [ls2, l2]) j
        refine ⟨acc, _, cs', hp', by rw [wipeD_len, l2, l1, lr], fun j hj hlt => wipeD_none hj (by rw [wipeD_len] at hlt; exact hlt), ?_, hC⟩
        rw [List.append_assoc] at h8
        rw [List.append_assoc]
        exact SR.toFront (r := tmp (.ref Dl) (.lst .own acc)) h8
  · have ei : i = items.length := by omega
    refine .inl ⟨ws (show items.length ≤ i by omega), ?_⟩
    rw [List.drop_of_length_le (by omega)] at hC
    simp only [compL] at hC
    cases hC
    refine q _ _ ?_
    have h3 : SR K Gf N H' ((tmp (.ref Dl) (.lst .own acc) :: (cs ++ ts)) ++ σ.zip ρi) := SR.slots (σ := wipe σ t.slots) hS (wipe_length _ _).symm fun j => by
      by_cases hj : j ∈ t.slots
      · by_cases hjl : j < ρi.length
        · exact .inl (nn j hj hjl)
        · refine .inr ?_
          rw [List.getElem?_eq_none (by omega), List.getElem?_eq_none (by rw [wipe_length]; omega)]
      · exact .inr (wipe_out hj).symm
    have h4 : SR K Gf N H' (cs ++ (tmp (.ref Dl) (.lst .own acc) :: (ts ++ σ.zip ρi))) := by
      refine h3.perm ?_
      show (tmp (.ref Dl) (.lst .own acc) :: ((cs ++ ts) ++ σ.zip ρi)).Perm _
      rw [List.append_assoc]
      exact List.perm_middle.symm
    exact h4.dropL
theorem compE_ln {t : Tg} {ei : Env → Option (List D × Env)} {ct : Env → Option (Bool × Env)} {ee : Env → Option (D × Env)} (li : Ln ei) (lc : Ln ct) (le : Ln ee) : Ln (compE t ei ct ee) := fun ρ p e => by
  obtain ⟨pi, e1, e⟩ := bnd e
  obtain ⟨fin, e2, rfl⟩ := mpd e
  show fin.2.length = _
  rw [compL_len lc le e2, wipeD_len, li _ _ e1]
end
end FL

/-! X1: rules about exceptions: clauses with and without a name, mixed; fields and classes of a caught one; making one; calls that raise, at known slots. -/
namespace FX
open PySem PySem.Spec PyProof.Rows L2
abbrev St := L2.St
/-- one clause -/
structure Clause where
  cv : Value
  sl : Option Nat
  rd : Addr → Value → Option Addr → TS
def endsOf : Option Nat → Ends → Ends
  | none, D => D
  | some i, D => ⟨fun σ H => D.nx (σ.set i none) H, D.rt, fun σ H => D.bk (σ.set i none) H, fun σ H => D.ct (σ.set i none) H⟩
def inSlot : Option Nat → Addr → St → St
  | none, _, σ => σ
  | some i, a, σ => σ.set i (some (.ref a))
def wCl (K : PySem.W.Frag) (Wo : WX) (D : Ends) : List Clause → WX
  | [] => Wo
  | q :: r => fun cls d σ H => ∃ b, PySem.W.exmOne K cls q.cv = some b ∧ (b = true → ∀ a, H a = none → q.rd a cls d (endsOf q.sl D) (inSlot q.sl a σ) H) ∧ (b = false → wCl K Wo D r cls d σ H)
def SlOk (X : Cx) : Option Str → Option Nat → Prop
  | none, none => True
  | some n, some i => X.N[i]? = some n ∧ X.env.kindOf n = some .local
  | _, _ => False
inductive ClOk (X : Cx) : List ExceptHandler → List Clause → Prop
  | nil : ClOk X [] []
  | cons {x : Str} {cv : Value} {sl : Option Nat} {rd : Addr → Value → Option Addr → TS} {nm : Option Str} {s0 : Stmt} {su : List Stmt} {np hp : Pos} {hds : List ExceptHandler} {l : List Clause} (hc : Names X x cv) (hn : SlOk X nm sl)
      (hsu : ∀ (a : Addr) (oe : Obj) (cls : Value) (d : Option Addr) (pn : List (Addr × Obj)), L2N.Zn cls d oe → (∃ fv, oe.data = .fields fv) → PSs (X.suite a ((a, oe) :: pn)) (s0 :: su) (rd a cls d))
      (r : ClOk X hds l) : ClOk X (.ExceptHandler (some (.Name x np)) nm (s0 :: su) hp :: hds) (⟨cv, sl, rd⟩ :: l)
section
variable {X : Cx} {body : List Stmt} {h0 : ExceptHandler} {hds : List ExceptHandler} {l : List Clause} {pos : Pos} {tb : WX → TS} {Wo : WX}
theorem ps_try_mix (hst : X.stack = X.env :: X.outer) (hfm : X.env.frame = some X.env.locals) (hN : X.N.Nodup) (tk : L2N.Takes X Wo)
    (hb : ∀ (W : WX) (pn : List (Addr × Obj)) (xe : Value → Shared → Prop), L2N.Takes (X.tr pn xe) W → PassesOwn (model X.prog X.w) X.A X.env xe → PSs (X.tr pn xe) body (tb W))
    (hh : ClOk X (h0 :: hds) l) : PS X (.Try body (h0 :: hds) [] [] pos) (fun D σ H => tb (wCl X.K Wo D l) D σ H) := by
  refine ⟨fun pins s σ H D I q0 => ?_⟩
  have ok := I.ok
  have fr : X.A.frames = some (X.env :: X.outer) := ok.frames.trans (congrArg some hst)
  refine wpAny_Try_except ?_
  let after : Value → Shared → Prop := fun e t1 => wpAny (model X.prog X.w) X.A (noteFrame e X.env) (fun _ t2 => wpAny (model X.prog X.w) X.A (setFlight e none) (fun _ t3 => wpAny (model X.prog X.w) X.A (handleBy e X.env (h0 :: hds)) (SP X pins D) X.xe t3) X.xe t2) X.xe t1
  have caught : L2N.Takes (X.tr (X.pn ++ pins) after) (wCl X.K Wo D l) := fun u t xx => by
    obtain ⟨a, B, sI, pins1, σ1, H1, cls, d, rfl, J0, nb, up, sky, na, os, ag, w⟩ := xx
    have J : Inv X pins σ1 H1 sI := J0.ofTry ok
    rw [show (X.tr (X.pn ++ pins) after).stack = X.env :: X.outer from hst] at sky
    show wpAny (model X.prog X.w) X.A (noteFrame (.ref a) X.env) _ _ _
    refine L2N.Sky.land L2N.Zn.steady fr hfm sky fun hA flA upA => ?_
    have JA : Inv X pins σ1 H1 { t with heap := hA } := J.landed nb flA.1 (up.trans upA) os ag
    obtain ⟨oA, fA, gA, zA, dA⟩ := flA.there
    have out : a ∉ frs (X.env :: X.outer) := fun hm => by
      obtain ⟨_, o2, g2, hnf⟩ := flA.2.2.1.mem hm
      rw [gA] at g2; cases g2
      exact hnf _ dA
    have nLoc : a ≠ X.env.locals := fun z => out (List.mem_filterMap.mpr ⟨X.env, List.mem_cons_self, by rw [hfm, z]⟩)
    have nFs : a ∉ X.fs := fun hm => by
      obtain ⟨e, he, q⟩ := List.mem_filterMap.mp hm
      exact out (List.mem_filterMap.mpr ⟨e, List.mem_cons_of_mem _ he, q⟩)
    have SA := JA.suite gA dA na nLoc nFs
    have LT : PySem.W.Looks (model X.prog X.w) hA (typeOf (.ref a)) cls := fun A Q E s k q => wpAny_typeOf_ref (k _ _ gA) (by rw [zA.1]; exact q)
    have walk : ∀ {hs1 : List ExceptHandler} {l1 : List Clause}, ClOk X hs1 l1 → wCl X.K Wo D l1 cls d σ1 H1 → wpAny (model X.prog X.w) X.A (handleBy (.ref a) X.env hs1) (SP X pins D) X.xe { t with heap := hA } := by
      intro hs1 l1 hk
      induction hk with
      | nil =>
        intro w
        refine wpAny_handleBy_nil ?_
        obtain ⟨_, _, _, o3, f3, T3, _, _, g3, _, d3, e3, _⟩ := id flA
        unfold PySem.passOn
        refine wpAny_bind (wpAny_field g3 d3 e3 ?_)
        rw [if_neg (show ¬ ((Value.ref T3 == Value.none) = true) from by simp)]
        have go : wpAny (model X.prog X.w) X.A (setFlight (.ref a) X.env.frame) (fun _ t4 => wpAny (model X.prog X.w) X.A (throw (.ref a) : Sem PySem.Flow) (SP X pins D) X.xe t4) X.xe { t with heap := hA } := by
          rw [hfm]
          refine HandSPX.setFlight_upZ flA fun hB hhB upB => wpAny_throw (tk _ _ ?_)
          refine ⟨a, B, sI, pins, σ1, H1, cls, d, rfl, J, nb, (up.trans upA).trans upB, .inr (.inr ?_), na, os, ag, w⟩
          rw [hst]; exact hhB
        first
          | exact wpAny_bind (wpAny_pure (wpAny_bind go))
          | exact wpAny_bind go
      | @cons x cv sl rd nm s0 su np hp hds2 l2 hc hn hsu r ih =>
        intro w
        obtain ⟨b, hb1, yes, no⟩ := w
        refine wpAny_handleBy_cons (codeAny_handlers_test ?_) (by intro q; cases q)
        have LM := PySem.W.exm_one (M := model X.prog X.w) JA.kIn LT hb1
        have test : ∀ {Q : Value → Shared → Prop} {E : Value → Shared → Prop}, Q cv { t with heap := hA } → wpAny (model X.prog X.w) (X.A.mark (some (.ref a))) (eval (.Name x np) X.env) Q E { t with heap := hA } := fun {Q E} q => by
          rcases hc with ⟨hg, hd, hm | ⟨hm, hv, hx⟩⟩
          · exact ld_glob (X := X.suite a ((a, oA) :: (X.pn ++ pins))) SA hg hm q hd
          · exact ld_blt (X := X.suite a ((a, oA) :: (X.pn ++ pins))) SA hg hm hv q hx hd
        refine test (LM.here ?_)
        cases b with
        | false =>
          show wpAny _ X.A (handleBy (.ref a) X.env hds2) _ _ _
          exact ih (no rfl)
        | true =>
          have w1 := yes rfl a na
          cases sl with
          | none =>
            cases nm with
            | some n => exact hn.elim
            | none =>
              refine codeAny_handlers_suite (HandSPX.lands_againZ flA fun hC flC upC => ?_)
              have JC : Inv X pins σ1 H1 { t with heap := hC } := J.landed nb flC.1 ((up.trans upA).trans upC) os ag
              obtain ⟨oC, fC, gC, zC, dC⟩ := flC.there
              have SC := JC.suite gC dC na nLoc nFs
              refine wpAny_mono ((hsu a oC cls d (X.pn ++ pins) zC ⟨_, dC⟩).run [] _ _ H1 _ SC w1) (fun f t6 sp => ?_) (fun _ _ z => False.elim z)
              cases f with
              | ret u =>
                obtain ⟨v6, σ6, H6, S6, r6, q6⟩ := sp
                exact ⟨_, _, _, S6.unsuite ok, r6, q6⟩
              | _ =>
                obtain ⟨σ6, H6, S6, q6⟩ := sp
                exact ⟨_, _, S6.unsuite ok, q6⟩
          | some i =>
            cases nm with
            | none => exact hn.elim
            | some n =>
              obtain ⟨hi, hl⟩ := hn
              refine codeAny_handlers_suite_as (HandSPX.lands_againZ flA fun hC flC upC => ?_)
              have JC : Inv X pins σ1 H1 { t with heap := hC } := J.landed nb flC.1 ((up.trans upA).trans upC) os ag
              obtain ⟨oC, fC, gC, zC, dC⟩ := flC.there
              have SC := JC.suite gC dC na nLoc nFs
              refine store_ok (X := X.suite a ((a, oC) :: (X.pn ++ pins))) (v := .ref a) SC hN hi (.inl hl) rfl (fun t5 S5 => ?_) (.inr hl)
              refine wpAny_mono ((hsu a oC cls d (X.pn ++ pins) zC ⟨_, dC⟩).run [] t5 _ H1 _ S5 w1) (fun f t6 sp => ?_) (fun _ _ z => False.elim z)
              have bye : ∀ {σ6 : St} {H6 : Hp} {Q : Shared → Prop}, Inv (X.suite a ((a, oC) :: (X.pn ++ pins))) [] σ6 H6 t6 → (∀ t7, Inv X pins (σ6.set i none) H6 t7 → Q t7) → wpAny (model X.prog X.w) X.A (do bindName X.env n .none; unbindBehindTheSuite X.env n hp) (fun _ t7 => Q t7) X.xe t6 :=
                fun {σ6 H6 Q} S6 hq => gone_ok (S6.unsuite ok) hN hi hl hq
              cases f with
              | ret u =>
                obtain ⟨v6, σ6, H6, S6, r6, q6⟩ := sp
                exact bye S6 fun t7 J7 => ⟨_, _, _, J7, r6, q6⟩
              | _ =>
                obtain ⟨σ6, H6, S6, q6⟩ := sp
                exact bye S6 fun t7 J7 => ⟨_, _, J7, q6⟩
    exact walk hh w
  refine wpAny_mono ((hb (wCl X.K Wo D l) (X.pn ++ pins) after caught PassesOwn.looking).run [] s σ H D (I.toTry _) q0) (fun f t1 sp => ?_) (fun e t1 z => z)
  cases f with
  | next =>
    obtain ⟨σ1, H1, J1, q⟩ := sp
    exact wpAny_execs_nil ⟨σ1, H1, J1.ofTry ok, q⟩
  | ret u =>
    obtain ⟨v, σ1, H1, J1, r, q⟩ := sp
    exact ⟨v, σ1, H1, J1.ofTry ok, r, q⟩
  | _ =>
    obtain ⟨σ1, H1, J1, q⟩ := sp
    exact ⟨σ1, H1, J1.ofTry ok, q⟩
end
/-! ### what a caught one tells -/
/-- the class facts that reading a field and isinstance want -/
structure XFacts (K : PySem.W.Frag) (C : Addr) : Prop where
  cl : (PySem.W.clsIn K C).isSome = true
  ga : PySem.W.findIn K (.ref C) "__getattribute__" = some (some (.builtin "BaseException.__getattribute__"))
  gg : PySem.W.findIn K (.ref C) "__getattr__" = some none
  sb : PySem.W.subIn K (.ref C) (.type "BaseException") = some true
  hd : PySem.W.hasDictIn K C = true
  kl : PySem.W.findIn K (.ref C) "__class__" = some (some (.builtin "object.__class__"))
  gt : PySem.W.specialIn K (.builtin "object.__class__") "__get__" = some (some (.builtin "getset_descriptor.__get__"))
  tk : PySem.W.takesIn K (.builtin "object.__class__") = some true
  mr : PySem.W.mroIn K C (.type "object") = some true
section
variable {X : Cx} {a C : Addr} {oe : Obj} {cls : Value} {d : Option Addr}
/-- e.f -/
def tXfl (a dd : Addr) (f : Str) (te : TE) : TE := fun σ H Q => te σ H fun x H1 => x = .ref a ∧ ∃ (fs : List (Str × V)) (v : V), H1 dd = some (.xd fs) ∧ fs.lookup f = some v ∧ Q v H1
theorem pe_xfl {dd : Addr} {e : Expr} {te : TE} {pos : Pos} {f : Str} (T : XFacts X.K C) (hno : PySem.W.findIn X.K (.ref C) f = some none) (hp : (a, oe) ∈ X.pn) (hz : Zc (.ref C) (some dd) oe) (hf : ∃ fv, oe.data = .fields fv) (he : PE X e te)
    (hb : attributeBase e f X.env (eval e X.env) = eval e X.env := by rfl) : PE X (.Attribute e f pos) (tXfl a dd f te) := by
  refine ⟨fun pins s σ H Q I h => attr_of hb (thn (he.run pins s σ H _ I h) fun u s1 hh => ?_)⟩
  obtain ⟨x, H1, I1, rx, rfl, fs, v, ea, l, q⟩ := hh
  obtain rfl : u = Value.ref a := rx
  obtain ⟨mA, hns, hr⟩ := (I1.hok dd _ ea : ObjOk X.prog X.w H1 s1.heap dd (.xd fs))
  obtain ⟨od, ho, hl⟩ := lookIn_ns hns
  obtain ⟨u, hu, ru⟩ := RelO.some_of (v := v) (o := mA f) (by rw [← l]; exact hr f)
  obtain ⟨fv, hd⟩ := hf
  have J : PySem.W.InstAt s1.heap a oe C (some od) := ⟨(I1.pin (a, oe) (List.mem_append_left _ hp)).1, hz.1, by unfold PySem.W.notCls; rw [hd] <;> rfl, by rw [hz.2]; exact ho⟩
  exact HandSPX.exc_get I1.kIn J T.ga T.gg T.sb (PySem.W.findObj_own T.hd hno rfl (by rw [hl, hu])) (handed_of ru) ⟨v, H1, I1.tok _, ru, q⟩
/-- isinstance(e, c) -/
def rXis (K : PySem.W.Frag) (C a : Addr) (d : Option Addr) : List V → Hp → VK → Prop := fun xs H Q => ∃ (c : V) (cv : Value) (b : Bool), xs = [.ref a, c] ∧ (∀ u, RelV c u → u = cv) ∧ PySem.W.kitOne K (.ref C) cv = some b ∧ (∀ dd, d = some dd → ∃ fs, H dd = some (.xd fs)) ∧ Q (.bl b) H
theorem call_xis (T : XFacts X.K C) (hp : (a, oe) ∈ X.pn) (hz : Zc (.ref C) d oe) (hf : ∃ fv, oe.data = .fields fv) : CallR X (.builtin "isinstance") (rXis X.K C a d) := by
  intro pins s σ H xs us Q I r h
  obtain ⟨c, cv, b, rfl, hcv, e, hd, q⟩ := h
  cases r with
  | cons rx rr =>
    cases rr with
    | cons rt rr =>
      cases rr
      cases rx
      have ec := hcv _ rt
      subst ec
      obtain ⟨fv, hv⟩ := hf
      have g1 := (I.pin (a, oe) (List.mem_append_left _ hp)).1
      have fin : ∀ od, PySem.W.InstAt s.heap a oe C od → wpAny (model X.prog X.w) X.A (call (.builtin "isinstance") [.ref a, _]) (EP X pins σ Q) X.xe s := fun od J =>
        PySem.W.kia_one (PySem.W.kitx_exc (gt := none) T.cl T.ga T.gg T.sb T.kl T.gt T.tk T.mr) I.kIn J e (fun z => nomatch z) fun tk => ⟨.bl b, H, I.kept (t' := tk) fun _ _ z => z, rfl, q⟩
      cases d with
      | none => exact fin none ⟨g1, hz.1, by unfold PySem.W.notCls; rw [hv] <;> rfl, by rw [hz.2]; trivial⟩
      | some dd =>
        obtain ⟨fs, ea⟩ := hd dd rfl
        obtain ⟨mA, hns, _⟩ := (I.hok dd _ ea : ObjOk X.prog X.w H s.heap dd (.xd fs))
        obtain ⟨od, ho, _⟩ := lookIn_ns hns
        exact fin (some od) ⟨g1, hz.1, by unfold PySem.W.notCls; rw [hv] <;> rfl, by rw [hz.2]; exact ho⟩
/-! ### making one -/
/-- C(), no __init__ of its own -/
theorem pmk0 {x : Str} {p pos : Pos} (q : PySem.W.excIn X.K C He.veBase "ValueError.__new__" = true) (gC : X.mg x = some (.ref C)) (kC : PySem.W.keepIn X.K (.ref C) = true) (r : Raises X (.ref C)) (hg : Gl X x)
    (hdb : (x == ("__debug__" : Str)) = false) : L2N.PMk X (.Call (.Name x p) [] [] pos) (fun _ H Q => Q (.ref C) none H) := by
  intro pins s σ H Q I h
  refine wpAny_Call_Name_kw (ld_glob I hg gC ?_ hdb)
  refine PySem.W.callWith_K0 I.kIn kC ?_
  show wpAny _ _ (call (.ref C) []) _ _ _
  obtain ⟨bm, N, nm, qn, bs, hdct, sn, sub, ab, col, dd, k0, k1, k2, k3, k5, mN, hC, hN, hni, T⟩ := exc_obj I.kIn q
  obtain ⟨hp, g, dr, tk, os⟩ := s
  refine wpAny_call_exc_subT F.excBase_ValueError T hC hN hni (fun h' e hm => ?_) (by show 0 ≤ sizeLine; omega)
  exact L2N.mk_of I hm r h (I.hok.gone hm.new)
end
end FX

/-! X2: C(e) with an __init__ of its own; calls that may raise, at known slots. -/
namespace FX
open PySem PySem.Spec PyProof.Rows L2
/-- what such an __init__ does: one field is set -/
def spXI (C : Addr) (f : Str) : Sp := fun vs H Q _ => ∃ a v, vs = [.ref a, v] ∧ H a = some (exo a C none) ∧ ∀ dx, H dx = none → dx ≠ a → Q .non (upd (upd H dx (exd dx [(f, v)])) a (exo a C (some dx)))
def tXm (C : Addr) (f : Str) (te : TE) : St → Hp → XK → Prop := fun σ H Q => te σ H fun v H1 => ∀ d, H1 d = none → Q (.ref C) (some d) (upd H1 d (.xd [(f, v)]))
def oneV (P : V → Hp → Prop) : List V → Hp → Prop
  | [v], H => P v H
  | _, _ => False
theorem oneV_some {P : V → Hp → Prop} : ∀ {vs : List V} {H : Hp}, oneV P vs H → ∃ v, vs = [v] ∧ P v H
  | [v], _, h => ⟨v, rfl, h⟩
  | [], _, h => h.elim
  | _ :: _ :: _, _, h => h.elim
section
variable {X : Cx} {CX : CXT} {x f : Str} {e : Expr} {te : TE} {p pos : Pos} {C fI : Addr} {k : Nat} {fd : FuncData} {ps : List Str}
theorem made_eq {H1 : Hp} {a d C : Addr} {f : Str} {v : V} (ha : H1 a = none) (hne : d ≠ a) :
    upd (del (upd (upd (upd H1 a (exo a C none)) d (exd d [(f, v)])) a (exo a C (some d))) a) d (.xd [(f, v)]) = upd H1 d (.xd [(f, v)]) := by
  funext b
  by_cases e1 : b = d
  · subst e1; rw [upd_same, upd_same]
  · rw [upd_ne e1, upd_ne e1]
    by_cases e2 : b = a
    · subst e2; rw [del_same, ha]
    · rw [del_ne e2, upd_ne e2, upd_ne e1, upd_ne e2]
theorem pmk1 (T : OexC X.K C) (iC : PySem.W.findIn X.K (.ref C) "__init__" = some (some (.ref fI))) (tyI : PySem.W.typeIn X.K (.ref fI) = some (.type "function"))
    (F1 : FnOk X.prog X.w X.K X.mg X.base CX k fI fd ps (spXI C f)) (hr : Room (k + 1) X.A) (hb : Binds X.K fd ps []) (hx : Passes CX X (fun _ _ _ => False)) (hg : Gl X x) (hm : X.mg x = some (.ref C)) (he : PE X e te)
    (hdb : (x == ("__debug__" : Str)) = false) (hs : starEach [e] X.env = [(false, eval e X.env)]) : L2N.PMk X (.Call (.Name x p) [e] [] pos) (tXm C f te) := by
  intro pins s σ H Q I h
  obtain ⟨nm, qn, Nn, bs, bm, sn, sb, ab, col, dd, k0, k1, k2, k3, k5, hC, hbm⟩ := T.cls
  refine wpAny_Call_Name_kw (ld_glob I hg hm ?_ hdb)
  have ha : PA X [e] (tCons te tNil) := pa_cons he pa_nil hs
  refine PySem.W.callWith_K (h₀ := X.base) I.ok.mod.kin T.kC (thn (ha.run pos pins s σ H (oneV fun v H1 => ∀ d, H1 d = none → Q (.ref C) (some d) (upd H1 d (.xd [(f, v)]))) I h) fun us s1 hh => ?_) hs (by rfl)
  obtain ⟨vs, H1, I1, r1, q1⟩ := hh
  obtain ⟨v, rfl, q1⟩ := oneV_some q1
  refine ⟨I1.kIn, ?_⟩
  show wpAny _ _ (call (.ref C) us) _ _ _
  obtain ⟨hp, g, dr, tk, os⟩ := s1
  have up1 : hp.objs.size ≤ hp.objs.size + 1 := Nat.le_succ _
  have na : H1 (hp.objs.size + 1) = none := I1.hok.fresh up1
  have keeps : ∀ b o, hp.get? b = some o → ((hp.push (PySem.W.kdv_tup us)).push (PySem.HandSPX.excO C hp.objs.size)).get? b = some o := fun b o e => Heap.get?_push_of_some _ (Heap.get?_push_of_some _ e)
  have there : ((hp.push (PySem.W.kdv_tup us)).push (PySem.HandSPX.excO C hp.objs.size)).get? (hp.objs.size + 1) = some (PySem.HandSPX.excO C hp.objs.size) := by heap_get
  have I2 : Inv X pins σ (upd H1 (hp.objs.size + 1) (exo (hp.objs.size + 1) C none)) ⟨(hp.push (PySem.W.kdv_tup us)).push (PySem.HandSPX.excO C hp.objs.size), g, dr, tk, os⟩ := I1.laid (t' := tk) keeps up1 (exo_ok there)
  have r2 : Vals [V.ref (hp.objs.size + 1), v] (Value.ref (hp.objs.size + 1) :: us) := .cons rfl r1
  have hq : spXI C f [V.ref (hp.objs.size + 1), v] (upd H1 (hp.objs.size + 1) (exo (hp.objs.size + 1) C none)) (fun u H2 => u = .non ∧ ∃ d, d ≠ hp.objs.size + 1 ∧ H1 d = none ∧ H2 = upd (upd (upd H1 (hp.objs.size + 1) (exo (hp.objs.size + 1) C none)) d (exd d [(f, v)])) (hp.objs.size + 1) (exo (hp.objs.size + 1) C (some d))) (fun _ _ _ => False) :=
    ⟨_, _, rfl, upd_same, fun d hd hne => ⟨rfl, d, hne, by rwa [upd_ne hne] at hd, rfl⟩⟩
  have hl : (Value.ref (hp.objs.size + 1) :: us).length = ps.length := by rw [← r2.length]; exact F1.len _ _ _ _ hq
  have b2 := hb _ (Value.ref (hp.objs.size + 1) :: us) I2.kIn (by rw [List.append_nil]; exact hl)
  rw [List.append_nil] at b2
  have small : us.length ≤ sizeLine := by
    rw [← Paired.length r1, sizeLine_eq]
    show 1 ≤ _
    omega
  refine wpAny_call (PySem.HandSPX.call_own F.excBase_ValueError (fun Y => PySem.HandSPX.refsVE_contains Y bm hbm) (I1.kIn _ _ hC) (PySem.W.looks_findIn I1.kIn iC) (fun self => PySem.W.bind_fn I1.kIn self tyI) small
    (codeAny_mono (F1.run _ X.stack _ _ ⟨Value.ref (hp.objs.size + 1) :: us, []⟩ _ _ _ _ (hr.make C us []) (I2.env0.make C us []) b2 r2 hq) fun r s' hq' => ?_))
  cases r with
  | error er => exact hx pins σ _ _ er s' I2 hq'
  | ok fl =>
    cases fl with
    | ret u =>
      obtain ⟨w, H2, os2, bare2, un2, hok2, rv, rfl, d, hne, hd1, rfl⟩ := hq'
      obtain ⟨h2, g2, d2, t2, os'⟩ := s'
      obtain ⟨t0, G, J, kG, ge, hoe, na2⟩ := mk_end0 (d2 := d2) (t2 := t2) (fs := [(f, v)]) I1 up1 keeps un2 hok2 os2 bare2 upd_same (by rw [upd_ne hne]; exact upd_same) hd1
      rw [made_eq na hne] at J na2
      refine ⟨rv, hp.objs.size + 1, _, _, ⟨G, g2, d2, t2, os'⟩, _, .ref C, some d, rfl, J, kG, ge, hoe, ⟨rfl, rfl, fun vs hv => ?_⟩, rfl, rfl, na2, rfl, bare2, raises_own T.exC T.tyC, q1 d hd1⟩
      cases hv
      rfl
    | next => exact False.elim hq'
    | brk => exact False.elim hq'
    | cont => exact False.elim hq'
end
/-! ### calls that may raise -/
section
variable {X : Cx} {CX : CXT} {k : Nat} {f C : Addr} {fd : FuncData} {ps : List Str} {sp : Sp} {E : St → XK} {x m : Str} {p pos apos : Pos} {e o : Expr} {es : List Expr} {ta : TE} {t : TA}
theorem pe_call0S (F : FnOk X.prog X.w X.K X.mg X.base CX k f fd ps sp) (hr : Room k X.A) (hg : Gl X x) (hm : X.mg x = some (.ref f)) (hk : PySem.W.keepIn X.K (.ref f) = true) (hb : Binds X.K fd ps []) (hx : ∀ σ, PassesAt CX X σ (E σ))
    (hdb : (x == ("__debug__" : Str)) = false) : PE X (.Call (.Name x p) [] [] pos) (tCallS sp E tNil) :=
  ⟨fun pins s σ H Q I h => wpAny_Call_Name_kw (ld_glob I hg hm (PySem.W.callWith_K0 I.kIn hk (run_fnS (us := []) F hr hb (hx σ) I .nil h)) hdb)⟩
def tMethS' (C : Addr) (m : Str) (sp : Sp) (E : St → XK) (ta : TE) (t : TA) : TE := fun σ H Q => ta σ H fun y H1 => ∃ a dx fs, y = .ref a ∧ H1 a = some (.ins C dx fs) ∧ fs.lookup m = none ∧ t σ H1 fun vs H2 => sp (y :: vs) H2 Q (E σ)
theorem pe_methS' {pl : Sem Bool} (he : PE X o ta) (c : Cls X.K C) (hm : Meth X.K C m f) (F : FnOk X.prog X.w X.K X.mg X.base CX k f fd ps sp) (hr : Room k X.A) (hb : Binds X.K fd ps []) (hx : ∀ σ, PassesAt CX X σ (E σ)) (ha : PA X (e :: es) t)
    (hst : starEach (e :: es) X.env = (false, eval e X.env) :: starEach es X.env) (hpl : (backTo pos (starEach es X.env)).any (·.1) = false)
    (ht : eval (.Call (.Attribute o m apos) (e :: es) [] pos) X.env = (do let ov ← eval o X.env; standAt apos.atName; let (f, first) ← holding [ov] (getMethod ov m pl); callWith pos f first (backTo pos (starEach (e :: es) X.env)) (backToKw pos (keywordEach [] X.env)))) :
    PE X (.Call (.Attribute o m apos) (e :: es) [] pos) (tMethS' C m sp E ta t) := by
  refine ⟨fun pins s σ H Q I h => PySem.W.methodCall_KW (pl := pl) (thn (he.run pins s σ H _ I h) fun u s1 ⟨y, H1, I1, ry, a, dx, fs, ey, ea, l, q⟩ => ?_) ht⟩
  subst ey
  obtain rfl : u = Value.ref a := ry
  refine getmeth_ok I1 ea c hm l (PySem.W.callWith_K (first := [.ref a]) (h₀ := X.base) I.ok.mod.kin hm.kp (thn (ha.run pos pins s1 σ H1 _ I1 q) fun us s2 ⟨vs, H2, I2, r, q2⟩ => ⟨I2.kIn, ?_⟩) hst hpl)
  exact run_fnS (us := .ref a :: us) (vs := .ref a :: vs) F hr hb (hx σ) I2 (.cons rfl r) q2
theorem pe_meth0S' {pl : Sem Bool} (he : PE X o ta) (c : Cls X.K C) (hm : Meth X.K C m f) (F : FnOk X.prog X.w X.K X.mg X.base CX k f fd ps sp) (hr : Room k X.A) (hb : Binds X.K fd ps []) (hx : ∀ σ, PassesAt CX X σ (E σ))
    (ht : eval (.Call (.Attribute o m apos) [] [] pos) X.env = (do let ov ← eval o X.env; standAt apos.atName; let (f, first) ← holding [ov] (getMethod ov m pl); callWith pos f first (backTo pos (starEach [] X.env)) (backToKw pos (keywordEach [] X.env)))) :
    PE X (.Call (.Attribute o m apos) [] [] pos) (tMethS' C m sp E ta tNil) := by
  refine ⟨fun pins s σ H Q I h => PySem.W.methodCall_KW (pl := pl) (thn (he.run pins s σ H _ I h) fun u s1 ⟨y, H1, I1, ry, a, dx, fs, ey, ea, l, q⟩ => ?_) ht⟩
  subst ey
  obtain rfl : u = Value.ref a := ry
  exact getmeth_ok I1 ea c hm l (PySem.W.callWith_K0 (first := [.ref a]) I1.kIn hm.kp (run_fnS (us := [.ref a]) (vs := [.ref a]) F hr hb (hx σ) I1 (.cons rfl .nil) q))
def tMakeS' (C : Addr) (sp : Sp) (E : St → XK) (t : TA) : TE := fun σ H Q => t σ H fun vs H1 => ∀ x dx, H1 x = none → H1 dx = none → dx ≠ x → sp (.ref x :: vs) (upd (upd H1 dx (.own x)) x (.ins C dx [])) (fun v H2 => v = .non ∧ Q (.ref x) H2) (E σ)
theorem run_makeS {pins : List (Addr × Obj)} {σ : St} {H : Hp} {s : Shared} {Q : VK} {us : List Value} {vs : List V} (M : Mk X.K C f) (F : FnOk X.prog X.w X.K X.mg X.base CX k f fd ps sp) (hr : Room (k + 1) X.A) (hb : Binds X.K fd ps []) (hx : PassesAt CX X σ (E σ)) (I : Inv X pins σ H s) (r : Vals vs us)
    (h : ∀ x dx, H x = none → H dx = none → dx ≠ x → sp (.ref x :: vs) (upd (upd H dx (.own x)) x (.ins C dx [])) (fun v H2 => v = .non ∧ Q (.ref x) H2) (E σ)) : wpAny (model X.prog X.w) X.A (call (.ref C) us) (EP X pins σ Q) X.xe s := by
  have hq := h _ _ (I.hok.fresh (Nat.le_succ _)) (I.hok.fresh (Nat.le_refl _)) (Nat.ne_of_lt (Nat.lt_succ_self _))
  have I2 := Inv.made (C := C) I
  have r2 : Vals (V.ref (s.heap.objs.size + 1) :: vs) (Value.ref (s.heap.objs.size + 1) :: us) := .cons rfl r
  have hl : (Value.ref (s.heap.objs.size + 1) :: us).length = ps.length := by rw [← r2.length]; exact F.len _ _ _ _ hq
  have b2 := hb _ (Value.ref (s.heap.objs.size + 1) :: us) I2.kIn (by rw [List.append_nil]; exact hl)
  rw [List.append_nil] at b2
  refine wpAny_call (make_map (f := f) I.kIn M.makes M.init (beq_iff_eq.mp M.fn) (codeAny_mono (F.run _ X.stack _ _ ⟨Value.ref (s.heap.objs.size + 1) :: us, []⟩ _ _ _ _ (hr.make C us []) (I2.env0.make C us []) b2 r2 hq) fun r s' hq' => ?_))
  cases r with
  | error e => exact hx pins _ _ e s' I2 hq'
  | ok fl =>
    cases fl with
    | ret u =>
      obtain ⟨v, H', I3, rv, rfl, q3⟩ := I2.after hq'
      exact ⟨rv, V.ref (s.heap.objs.size + 1), H', I3, rfl, q3⟩
    | next => exact False.elim hq'
    | brk => exact False.elim hq'
    | cont => exact False.elim hq'
theorem pe_makeS' (M : Mk X.K C f) (F : FnOk X.prog X.w X.K X.mg X.base CX k f fd ps sp) (hr : Room (k + 1) X.A) (hg : Gl X x) (hm : X.mg x = some (.ref C)) (hb : Binds X.K fd ps []) (hx : ∀ σ, PassesAt CX X σ (E σ)) (ha : PA X (e :: es) t)
    (hdb : (x == ("__debug__" : Str)) = false) (he : starEach (e :: es) X.env = (false, eval e X.env) :: starEach es X.env) (hpl : (backTo pos (starEach es X.env)).any (·.1) = false) : PE X (.Call (.Name x p) (e :: es) [] pos) (tMakeS' C sp E t) :=
  ⟨fun pins s σ H Q I h => wpAny_Call_Name_kw (ld_glob I hg hm (PySem.W.callWith_K (h₀ := X.base) I.ok.mod.kin M.kp (thn (ha.run pos pins s σ H _ I h) fun us s1 ⟨vs, H1, I1, r, q⟩ => ⟨I1.kIn, run_makeS M F hr hb (hx σ) I1 r q⟩) he hpl) hdb)⟩
theorem pe_make0S' (M : Mk X.K C f) (F : FnOk X.prog X.w X.K X.mg X.base CX k f fd ps sp) (hr : Room (k + 1) X.A) (hg : Gl X x) (hm : X.mg x = some (.ref C)) (hb : Binds X.K fd ps []) (hx : ∀ σ, PassesAt CX X σ (E σ)) (hdb : (x == ("__debug__" : Str)) = false) :
    PE X (.Call (.Name x p) [] [] pos) (tMakeS' C sp E tNil) :=
  ⟨fun pins s σ H Q I h => wpAny_Call_Name_kw (ld_glob I hg hm (PySem.W.callWith_K0 I.kIn M.kp (run_makeS (us := []) M F hr hb (hx σ) I .nil h)) hdb)⟩
end
end FX

/-! X6: o[i], o an object of a class with its own __getitem__. -/
namespace FX
open PySem PySem.Spec PyProof.Rows L2
def tGti (C : Addr) (sp : Sp) (E : St → XK) (ta tb : TE) : TE := fun σ H Q => ta σ H fun x H1 => tb σ H1 fun y H2 => ∃ a dx fs, x = .ref a ∧ H2 a = some (.ins C dx fs) ∧ sp [x, y] H2 Q (E σ)
theorem pe_gti {X : Cx} {CX : CXT} {k : Nat} {f C : Addr} {fd : FuncData} {ps : List Str} {sp : Sp} {E : St → XK} {a b : Expr} {ta tb : TE} {pos : Pos} (ha : PE X a ta) (hb : PE X b tb) (hm : Meth X.K C "__getitem__" f) (hfi : PySem.W.fnIn X.K f = true) (F : FnOk X.prog X.w X.K X.mg X.base CX k f fd ps sp)
    (hr : Room (k + 1) X.A) (hbd : Binds X.K fd ps []) (hx : ∀ σ, PassesAt CX X σ (E σ)) (hsl : ∀ x i, subscripted b true (.ref x) i = runValue (.builtin "lifetime.subscript" ⟨[.ref x, i], []⟩)) : PE X (.Subscript a b pos) (tGti C sp E ta tb) := by
  refine ⟨fun pins s σ H Q I h => Subscript_ ?_⟩
  refine thn (ha.run pins s σ H _ I h) fun v s1 ⟨x, H1, I1, rx, q1⟩ => thn (hb.run pins s1 σ H1 _ I1 q1) fun u s2 ⟨y, H2, I2, ry, p, dx, fs, ex, ea, q⟩ => ?_
  subst ex
  obtain rfl : v = Value.ref p := rx
  obtain ⟨mA, O, _, _, _, _⟩ := ins_get I2.hok ea
  obtain ⟨od, In, _⟩ := O.look
  obtain ⟨m, fr⟩ := I2.fr
  refine PySem.W.sub_K fr I2.ok.mod.kin In hm.at_ hfi hm.fn ?_ (hsl p u)
  have r : Vals [V.ref p, y] [Value.ref p, u] := .cons rfl (.cons ry .nil)
  have hl : ([Value.ref p, u] : List Value).length = ps.length := by rw [← r.length]; exact F.len _ _ _ _ q
  have bb := hbd s2 [.ref p, u] I2.kIn (by rw [List.append_nil]; exact hl)
  rw [List.append_nil] at bb
  refine wpAny_call (codeAny_mono (F.run X.A.in1 X.stack s2 H2 ⟨[.ref p, u], []⟩ _ _ Q (E σ) hr.in1 I2.env0.in1 bb r q) fun r s' hq => ?_)
  cases r with
  | error e => exact hx σ pins H2 s2 e s' I2 hq
  | ok fl =>
    cases fl with
    | ret w => exact I2.after hq
    | next => exact False.elim hq
    | brk => exact False.elim hq
    | cont => exact False.elim hq
end FX

/-! X8: == by an own __eq__. -/
namespace FX
open PySem PySem.Spec PyProof.Rows L2
def tyNames : List String := ["NoneType", "bool", "int", "str", "tuple", "list", "dict"]
def RightOk (K : PySem.W.Frag) (C : Addr) (y : V) (H : Hp) : Prop := (∃ n, n ∈ tyNames ∧ TyX K H y (.type n)) ∨ ∃ b dx fs, y = .ref b ∧ H b = some (.ins C dx fs)
def rOeq (K : PySem.W.Frag) (C : Addr) (sp : Sp) (E : XK) : R2 := fun x y H Q => (∃ a dx fs, x = .ref a ∧ H a = some (.ins C dx fs)) ∧ RightOk K C y H ∧ sp [x, y] H (fun v H' => (∃ b, v = .bl b) ∧ Q v H') E
theorem opr_oeq {X : Cx} {CX : CXT} {k : Nat} {f C : Addr} {fd : FuncData} {ps : List Str} {sp : Sp} {E : XK} (hm : Meth X.K C "__eq__" f) (hs : ∀ n ∈ tyNames, PySem.W.subIn X.K (.type n) (.ref C) = some false)
    (F : FnOk X.prog X.w X.K X.mg X.base CX k f fd ps sp) (hr : Room k X.A) (hbd : Binds X.K fd ps []) (hx : Passes CX X E) : OpR X (compareOp .Eq) (rOeq X.K C sp E) := by
  intro pins s σ H x y v u Q I rx ry hq
  obtain ⟨⟨a, dx, fs, rfl, ha⟩, hR, q⟩ := hq
  obtain rfl : v = Value.ref a := rx
  obtain ⟨mA, J, _⟩ := ins_get I.hok ha
  obtain ⟨od, J, _⟩ := J.look
  obtain ⟨m, hF⟩ := I.fr
  have key : ∃ tb, PySem.W.Looks (model X.prog X.w) s.heap (typeOf u) tb ∧ PySem.W.notFirst X.K C tb = true := by
    rcases hR with ⟨n, hn, ty⟩ | ⟨b, dy, gs, rfl, hb⟩
    · obtain ⟨P, Z, p, _⟩ := kit_of I ry ty
      exact ⟨.type n, Z.ty _ _ I.kIn p, by unfold PySem.W.notFirst; rw [hs n hn]; simp⟩
    · obtain rfl : u = Value.ref b := ry
      obtain ⟨mB, J', _⟩ := ins_get I.hok hb
      obtain ⟨od', J', _⟩ := J'.look
      exact ⟨.ref C, J'.type, by simp [PySem.W.notFirst]⟩
  obtain ⟨tb, hl, hn⟩ := key
  show wpAny (model X.prog X.w) X.A (richCompare .Eq (.ref a) u) (EP X pins σ Q) X.xe s
  refine PySem.W.cmp_K (op := .Eq) (tb := tb) hr.units0 hF I.ok.mod.kin J hl hn hm.at_ hm.fn ?_
  have hlen := F.len _ _ _ _ q
  have r2 : Vals [V.ref a, y] [Value.ref a, u] := .cons rfl (.cons ry .nil)
  refine wpAny_call (codeAny_mono (F.run X.A X.stack s H ⟨[.ref a, u], []⟩ [.ref a, u] [.ref a, y] _ E hr I.env0 (by
    have := hbd s [.ref a, u] I.kIn (by simpa using hlen)
    simpa using this) r2 q) fun r s' hq => ?_)
  cases r with
  | error e => exact hx pins σ H s e s' I hq
  | ok fl =>
    cases fl with
    | ret w =>
      obtain ⟨z, H', I', rz, ⟨b, ez⟩, q'⟩ := I.after hq
      subst ez
      obtain rfl : w = Value.bool b := rz
      exact ⟨.bl b, H', I', rfl, q'⟩
    | next => exact False.elim hq
    | brk => exact False.elim hq
    | cont => exact False.elim hq
end FX

/-! F12: statements. -/
namespace FL
open PySem PySem.Spec PyProof.Rows L2 StX
def Agree (io : List Nat) (σ σ' : L2.St) : Prop := σ'.length = σ.length ∧ ∀ i ∈ io, σ'[i]? = σ[i]?
theorem Agree.refl {io : List Nat} {σ : L2.St} : Agree io σ σ := ⟨rfl, fun _ _ => rfl⟩
theorem Agree.trans {io : List Nat} {a b c : L2.St} (h : Agree io a b) (g : Agree io b c) : Agree io a c := ⟨g.1.trans h.1, fun i hi => (g.2 i hi).trans (h.2 i hi)⟩
theorem Same.agree {is io : List Nat} {a b : L2.St} (h : Same is a b) (d : ∀ i ∈ is, i ∉ io) : Agree io a b := ⟨h.1, fun i hi => h.2 i fun z => d i z hi⟩
def FlowOk (K : PySem.W.Frag) (Gf : Hp) (N : List Addr) (ts : List Root) (io : List Nat) (W : WX) (σ : L2.St) (Dn : Ends) : Flow → Prop
  | .nx ρ' => ∀ σ' H', Agree io σ σ' → σ'.length = ρ'.length → SR K Gf N H' (ts ++ σ'.zip ρ') → Dn.nx σ' H'
  | .bk ρ' => ∀ σ' H', Agree io σ σ' → σ'.length = ρ'.length → SR K Gf N H' (ts ++ σ'.zip ρ') → Dn.bk σ' H'
  | .ct ρ' => ∀ σ' H', Agree io σ σ' → σ'.length = ρ'.length → SR K Gf N H' (ts ++ σ'.zip ρ') → Dn.ct σ' H'
  | .rt d ρ' => ∀ v σ' H', Agree io σ σ' → σ'.length = ρ'.length → SR K Gf N H' (tmp v d :: (ts ++ σ'.zip ρ')) → Dn.rt v H'
  | .ex x ρ' => ∀ cls d σ' H', Agree io σ σ' → σ'.length = ρ'.length → XSR K Gf N H' cls d x (ts ++ σ'.zip ρ') → W cls d σ' H'
theorem FlowOk.agree {K : PySem.W.Frag} {Gf : Hp} {N : List Addr} {ts : List Root} {io : List Nat} {W : WX} {σ σ1 : L2.St} {Dn : Ends} {fl : Flow} (h : FlowOk K Gf N ts io W σ Dn fl) (a : Agree io σ σ1) : FlowOk K Gf N ts io W σ1 Dn fl := by
  cases fl with
  | nx ρ => exact fun σ' H' b l s => h σ' H' (a.trans b) l s
  | bk ρ => exact fun σ' H' b l s => h σ' H' (a.trans b) l s
  | ct ρ => exact fun σ' H' b l s => h σ' H' (a.trans b) l s
  | rt d ρ => exact fun v σ' H' b l s => h v σ' H' (a.trans b) l s
  | ex x ρ => exact fun cls d σ' H' b l s => h cls d σ' H' (a.trans b) l s
def tX (K : PySem.W.Frag) (io : List Nat) (W : WX) (ex : Env → Option Flow) : TS := fun Dn σ H => ∃ Gf N ts ρ, σ.length = ρ.length ∧ SR K Gf N H (ts ++ σ.zip ρ) ∧ ∃ fl, ex ρ = some fl ∧ FlowOk K Gf N ts io W σ Dn fl
abbrev PXS (X : Cx) (io : List Nat) (W : WX) (st : Stmt) (ex : Env → Option Flow) : Prop := PS X st (tX X.K io W ex)
abbrev PXSs (X : Cx) (io : List Nat) (W : WX) (st : List Stmt) (ex : Env → Option Flow) : Prop := PSs X st (tX X.K io W ex)
theorem ps_imp {X : Cx} {e : Stmt} {t t' : TS} (h : PS X e t) (f : ∀ D σ H, t' D σ H → t D σ H) : PS X e t' := ⟨fun pins s σ H D I q => h.run pins s σ H D I (f D σ H q)⟩
theorem pss_imp {X : Cx} {e : List Stmt} {t t' : TS} (h : PSs X e t) (f : ∀ D σ H, t' D σ H → t D σ H) : PSs X e t' := ⟨fun pins s σ H D I q => h.run pins s σ H D I (f D σ H q)⟩
theorem pxss_alt {X : Cx} {io : List Nat} {W : WX} {st : List Stmt} {xa xb : Env → Option Flow} (ha : PXSs X io W st xa) (hb : PXSs X io W st xb) : PXSs X io W st (fun ρ => altF (xa ρ) (xb ρ)) :=
  ⟨fun pins s σ H D I q => by
    obtain ⟨Gf, N, ts, ρ, hl, hs, fl, e, q⟩ := q
    have e' : altF (xa ρ) (xb ρ) = some fl := e
    cases h : xa ρ with
    | some f =>
      rw [h] at e'
      have e2 : some f = some fl := e'
      exact ha.run pins s σ H D I ⟨Gf, N, ts, ρ, hl, hs, fl, h.trans e2, q⟩
    | none =>
      rw [h] at e'
      have e2 : xb ρ = some fl := e'
      exact hb.run pins s σ H D I ⟨Gf, N, ts, ρ, hl, hs, fl, e2, q⟩⟩
theorem pxs_cg {X : Cx} {io : List Nat} {W : WX} {st : Stmt} {ev ev' : Env → Option Flow} (h : PXS X io W st ev) (f : ∀ ρ, ev' ρ = ev ρ) : PXS X io W st ev' := by
  have : ev' = ev := funext f
  rw [this]; exact h
theorem pxss_cg {X : Cx} {io : List Nat} {W : WX} {st : List Stmt} {ev ev' : Env → Option Flow} (h : PXSs X io W st ev) (f : ∀ ρ, ev' ρ = ev ρ) : PXSs X io W st ev' := by
  have : ev' = ev := funext f
  rw [this]; exact h
section
variable {X : Cx} {io : List Nat} {W : WX} {st : Stmt} {sts : List Stmt} {ea eb : Env → Option (D × Env)} {xa xb : Env → Option Flow} {pos : Pos}
theorem pxs_nev : PXS X io W st (fun _ => none) := ps_imp ps_never fun D σ H ⟨_, _, _, _, _, _, _, e, _⟩ => by cases e
theorem pxs_flow {fl : Env → Flow} (h : ∀ (D : Ends) (σ : L2.St) (H : Hp), tX X.K io W (fun ρ => some (fl ρ)) D σ H → ∃ t, PS X st t ∧ t D σ H) : PXS X io W st (fun ρ => some (fl ρ)) := ⟨fun pins s σ H D I q => by
  obtain ⟨t, p, q'⟩ := h D σ H q
  exact p.run pins s σ H D I q'⟩
theorem pxs_pass (h : PS X st tNext) : PXS X io W st (fun ρ => some (.nx ρ)) := ps_imp h fun D σ H ⟨Gf, N, ts, ρ, hl, hs, fl, e, q⟩ => by
  cases e; exact q σ H .refl hl hs
theorem pxs_brk (h : PS X st tBreak) : PXS X io W st (fun ρ => some (.bk ρ)) := ps_imp h fun D σ H ⟨Gf, N, ts, ρ, hl, hs, fl, e, q⟩ => by
  cases e; exact q σ H .refl hl hs
theorem pxs_cnt (h : PS X st tCont) : PXS X io W st (fun ρ => some (.ct ρ)) := ps_imp h fun D σ H ⟨Gf, N, ts, ρ, hl, hs, fl, e, q⟩ => by
  cases e; exact q σ H .refl hl hs
theorem pxs_retN (h : PS X st tRetN) : PXS X io W st (fun ρ => some (.rt .non ρ)) := ps_imp h fun D σ H ⟨Gf, N, ts, ρ, hl, hs, fl, e, q⟩ => by
  cases e; exact q .non σ H .refl hl (hs.flat .non)
theorem pxs_ret (la : Ln ea) (h : PS X st (tRet (tI X.K ea))) : PXS X io W st (fun ρ => (ea ρ).map fun p => .rt p.1 p.2) := ps_imp h fun D σ H ⟨Gf, N, ts, ρ, hl, hs, fl, e, q⟩ => by
  obtain ⟨p, e1, rfl⟩ := mpd e
  exact ⟨Gf, N, ts, ρ, hl, hs, p, e1, fun v H' h' => q v σ H' .refl (hl.trans (la _ _ e1).symm) h'⟩
theorem pxs_ex (la : Ln ea) (h : PS X st (tDrop (tI X.K ea))) : PXS X io W st (fun ρ => (ea ρ).map fun p => .nx p.2) := ps_imp h fun D σ H ⟨Gf, N, ts, ρ, hl, hs, fl, e, q⟩ => by
  obtain ⟨p, e1, rfl⟩ := mpd e
  exact ⟨Gf, N, ts, ρ, hl, hs, p, e1, fun v H' h' => q σ H' .refl (hl.trans (la _ _ e1).symm) h'.drop⟩
theorem pxs_set {t : Tg} {te : TE} (hd : ∀ i ∈ t.slots, i ∉ io) (la : Ln ea) (hte : ∀ σ H Q, tI X.K ea σ H Q → te σ H Q) (h : PS X st (tAsg te (gT X.K t))) : PXS X io W st (fun ρ => (ea ρ).bind fun p => (bindT t p.1 p.2).map .nx) := ps_imp h fun D σ H ⟨Gf, N, ts, ρ, hl, hs, fl, e, q⟩ => by
  obtain ⟨p, e1, e⟩ := bnd e
  obtain ⟨ρ1, e2, rfl⟩ := mpd e
  have l1 := la _ _ e1
  refine hte _ _ _ ⟨Gf, N, ts, ρ, hl, hs, p, e1, fun v H' h' => tg_ok t (hl.trans l1.symm) h' e2 fun σ' H2 sm l2 h2 => q σ' H2 (sm.agree hd) ?_ h2⟩
  rw [sm.1, hl, l2, l1]
theorem setID_some {x k d z : D} (h : setID x k d = some z) : ∃ xs i j, x = .lst .own xs ∧ k = .int i ∧ ixN xs.length i = some j ∧ z = .lst .own (xs.set j d) := by
  unfold setID at h
  split at h
  · obtain ⟨j, e, rfl⟩ := mpd h
    exact ⟨_, _, j, rfl, rfl, e, rfl⟩
  · cases h
theorem ixN_lt {n : Nat} {i : Int} {j : Nat} (h : ixN n i = some j) : j < n := by
  unfold ixN at h
  split at h
  · split at h
    · cases h; omega
    · cases h
  · split at h
    · cases h; omega
    · cases h
theorem pxs_setI {i : Nat} (la : Ln ea) (lb : Ln eb) (h : PS X st (tAsg (tI X.K ea) (gSub (tVar i) (tI X.K eb) rSetL))) :
    PXS X io W st (fun ρ => (ea ρ).bind fun p => (getS p.2 i).bind fun _ => (eb p.2).bind fun q => (getS q.2 i).bind fun x => (setID x q.1 p.1).map fun z => .nx (q.2.set i (some z))) := ps_imp h fun D σ H ⟨Gf, N, ts, ρ, hl, hs, fl, e, q⟩ => by
  obtain ⟨p, e1, e⟩ := bnd e
  obtain ⟨x0, e0, e⟩ := bnd e
  obtain ⟨pb, e2, e⟩ := bnd e
  obtain ⟨x, e3, e⟩ := bnd e
  obtain ⟨z, e4, rfl⟩ := mpd e
  obtain ⟨xs, k, j, rfl, ek, ej, rfl⟩ := setID_some e4
  have l1 := la _ _ e1
  have l2 := lb _ _ e2
  refine ⟨Gf, N, ts, ρ, hl, hs, p, e1, fun v H1 h1 => ?_⟩
  obtain ⟨w, ew⟩ := SR.slotV (ts := tmp v p.1 :: ts) h1 (hl.trans l1.symm) e0
  refine ⟨w, ew, Gf, N, tmp v p.1 :: ts, p.2, hl.trans l1.symm, h1, pb, e2, fun y H2 h2 => ?_⟩
  have h3 := SR.take (ts := tmp y pb.1 :: tmp v p.1 :: ts) h2 e3 ew
  rw [ek] at h3
  have h4 : SR X.K Gf N H2 (tmp w (.lst .own xs) :: tmp v p.1 :: (ts ++ σ.zip (pb.2.set i none))) := h3.dropMid
  have hy : y = .int k := SR.isInt (v := y) h3.swap2
  obtain ⟨a, vs, ea', ca, la'⟩ := h4.contV rfl
  subst ea'
  obtain ⟨vs', ev', lv', f⟩ := h4.setAt
  refine ⟨a, vs', k, j, rfl, hy, ev', by rw [lv']; exact ej, ?_⟩
  have h5 := f j (ixN_lt ej)
  have h6 := SR.put (ts := ts) (σ := σ) (i := i) h5 (by rw [len_set]; exact getS_lt e3) ew
  rw [List.set_set] at h6
  exact q σ _ .refl (by rw [len_set, l2, l1]; exact hl) h6
theorem setFD_some {x d z : D} {f : Str} (h : setFD x f d = some z) : ∃ c ns xs, x = .obj .own c ns xs ∧ xs.length < 1000 ∧ z = .obj .own c (putD ns xs f d).1 (putD ns xs f d).2 := by
  unfold setFD at h
  split at h
  · split at h
    · cases h; exact ⟨_, _, _, rfl, by assumption, rfl⟩
    · cases h
  · cases h
theorem pxs_setF {cs : List (Str × List Str)} (hc : ClsOk X.K cs) {i : Nat} {f : Str} (la : Ln ea) (h : PS X st (sFld X.K (tVar i) (tI X.K ea) f)) :
    PXS X io W st (fun ρ => (ea ρ).bind fun p => (getS p.2 i).bind fun x => if hasFld cs f x = true then (setFD x f p.1).map fun z => .nx (p.2.set i (some z)) else none) := ps_imp h fun D σ H ⟨Gf, N, ts, ρ, hl, hs, fl, e, q⟩ => by
  obtain ⟨p, e1, e⟩ := bnd e
  obtain ⟨x, e3, e⟩ := bnd e
  split at e
  · rename_i hf
    obtain ⟨z, e4, rfl⟩ := mpd e
    obtain ⟨c, ns, xs, rfl, hz, rfl⟩ := setFD_some e4
    have l1 := la _ _ e1
    refine ⟨Gf, N, ts, ρ, hl, hs, p, e1, fun v H1 h1 => ?_⟩
    obtain ⟨w, ew⟩ := SR.slotV (ts := tmp v p.1 :: ts) h1 (hl.trans l1.symm) e3
    have h3 := SR.take (ts := tmp v p.1 :: ts) h1 e3 ew
    obtain ⟨a, vs, ea', ca, la'⟩ := h3.contV rfl
    subst ea'
    obtain ⟨dx, fs, eH, lf, h4⟩ := SR.setF (f := f) h3
    refine ⟨.ref a, ew, a, _, dx, fs, rfl, eH, (hasFld_ok hc hf).1, (hasFld_ok hc hf).2, by rw [lf]; exact hz, ?_⟩
    have h6 := SR.put (ts := ts) (σ := σ) (i := i) h4 (by rw [len_set]; exact getS_lt e3) ew
    rw [List.set_set] at h6
    exact q σ _ .refl (by rw [len_set, l1]; exact hl) h6
  · cases e
theorem pxs_aug {i : Nat} {op : BOp} {g : Int → Int → Int} (hd : i ∉ io) (hop : ∀ x y z, augD op x y = some z → ∃ a b, x = .int a ∧ y = .int b ∧ z = .int (g a b)) (la : Ln ea) (h : PS X st (tAug i (tI X.K ea) (ipI g))) :
    PXS X io W st (fun ρ => (getS ρ i).bind fun x => (ea ρ).bind fun p => (augD op x p.1).bind fun z => (putS p.2 i z).map .nx) := ps_imp h fun D σ H ⟨Gf, N, ts, ρ, hl, hs, fl, e, q⟩ => by
  obtain ⟨x, e0, e⟩ := bnd e
  obtain ⟨p, e1, e⟩ := bnd e
  obtain ⟨z, e2, e⟩ := bnd e
  obtain ⟨ρ1, e3, rfl⟩ := mpd e
  obtain ⟨hi, rfl⟩ := putS_some e3
  obtain ⟨a, b, rfl, eb, rfl⟩ := hop _ _ _ e2
  have l1 := la _ _ e1
  obtain ⟨w, ew⟩ := hs.slotV hl e0
  have hw : w = .int a := (hs.take e0 ew).isInt
  refine ⟨w, ew, Gf, N, ts, ρ, hl, hs, p, e1, fun v H1 h1 => ?_⟩
  rw [eb] at h1
  refine ⟨a, b, hw, h1.isInt, ?_⟩
  have h2 := (h1.drop.flat (.int (g a b))).store (hl.trans l1.symm) hi
  exact q _ _ ((Same.set (is := [i]) (by simp)).agree fun j hj => by simp at hj; subst hj; exact hd) (by rw [List.length_set, len_set, l1]; exact hl) h2
theorem appD_some {x d z : D} (h : appD x d = some z) : ∃ xs, x = .lst .own xs ∧ xs.length < SZ ∧ z = .lst .own (xs ++ [d]) := by
  unfold appD at h
  split at h
  · split at h
    · cases h; exact ⟨_, rfl, by assumption, rfl⟩
    · cases h
  · cases h
theorem pxs_app {i : Nat} (la : Ln ea) (h : PS X st (tDrop (tBM X.K "list" rAppend (tVar i) (tCons (tI X.K ea) tNil)))) :
    PXS X io W st (fun ρ => (getS ρ i).bind fun x0 => if isLst x0 = true then (ea ρ).bind fun p => (getS p.2 i).bind fun x => (appD x p.1).map fun z => .nx (p.2.set i (some z)) else none) := ps_imp h fun D σ H ⟨Gf, N, ts, ρ, hl, hs, fl, e, q⟩ => by
  obtain ⟨x0, e0, e⟩ := bnd e
  split at e
  · rename_i hlst
    obtain ⟨p, e1, e⟩ := bnd e
    obtain ⟨x, e3, e⟩ := bnd e
    obtain ⟨z, e4, rfl⟩ := mpd e
    obtain ⟨xs, rfl, hz, rfl⟩ := appD_some e4
    have l1 := la _ _ e1
    obtain ⟨w, ew⟩ := hs.slotV hl e0
    have ty : tyV X.K "list" w H := by
      cases x0 <;> simp only [isLst, reduceCtorEq] at hlst
      obtain ⟨a, vs, ea', ca, la'⟩ := (hs.take e0 ew).contV rfl
      subst ea'
      exact .inl ⟨rfl, vs, ca.1⟩
    refine ⟨w, ew, ty, Gf, N, ts, ρ, hl, hs, p, e1, fun v H1 h1 => ?_⟩
    have h3 := SR.take (ts := tmp v p.1 :: ts) h1 e3 ew
    obtain ⟨a, vs, ea', ca, la'⟩ := h3.contV rfl
    subst ea'
    obtain ⟨vs', ev', lv', h4⟩ := h3.push
    refine ⟨a, vs', v, rfl, rfl, ev', by rw [lv', sizeLine_eq]; exact hz, ?_⟩
    have h6 := SR.put (ts := ts) (σ := σ) (i := i) h4 (by rw [len_set]; exact getS_lt e3) ew
    rw [List.set_set] at h6
    exact q σ _ .refl (by rw [len_set, l1]; exact hl) h6
  · cases e
def iteS (ea : Env → Option (D × Env)) (xa xb : Env → Option Flow) : Env → Option Flow := fun ρ => (ea ρ).bind fun p => match p.1 with
    | .bl true => xa p.2
    | .bl false => xb p.2
    | _ => none
theorem pxs_ite {c : Expr} {a b : List Stmt} (hc : PXT X c (asT ea)) (la : Ln ea) (ha : PXSs X io W a xa) (hb : PXSs X io W b xb) : PXS X io W (.If c a b pos) (iteS ea xa xb) := ps_imp (ps_if hc.pt ha hb) fun D σ H ⟨Gf, N, ts, ρ, hl, hs, fl, e, q⟩ => by
  obtain ⟨⟨d, ρ1⟩, e1, e⟩ := bnd e
  cases d with
  | bl k =>
    refine ⟨Gf, N, ts, ρ, hl, hs, (k, ρ1), asT_bl e1, fun H1 h1 => ?_⟩
    cases k with
    | true => exact iteT ⟨Gf, N, ts, ρ1, hl.trans (la _ _ e1).symm, h1, fl, e, q⟩
    | false => exact iteF ⟨Gf, N, ts, ρ1, hl.trans (la _ _ e1).symm, h1, fl, e, q⟩
  | _ => cases e
theorem pxss_nil : PXSs X io W [] (fun ρ => some (.nx ρ)) := pss_imp pss_nil fun D σ H ⟨Gf, N, ts, ρ, hl, hs, fl, e, q⟩ => by
  cases e; exact q σ H .refl hl hs
def seqS (xa xb : Env → Option Flow) : Env → Option Flow := fun ρ => (xa ρ).bind fun fl => match fl with
    | .nx ρ1 => xb ρ1
    | fl => some fl
theorem pxss_cons (ha : PXS X io W st xa) (hb : PXSs X io W sts xb) : PXSs X io W (st :: sts) (seqS xa xb) := pss_imp (pss_cons ha hb) fun D σ H ⟨Gf, N, ts, ρ, hl, hs, fl, e, q⟩ => by
  obtain ⟨f1, e1, e⟩ := bnd e
  refine ⟨Gf, N, ts, ρ, hl, hs, f1, e1, ?_⟩
  cases f1 with
  | nx ρ1 => exact fun σ' H' a l h => ⟨Gf, N, ts, ρ1, l, h, fl, e, q.agree a⟩
  | bk ρ1 => cases e; exact q
  | ct ρ1 => cases e; exact q
  | rt d ρ1 => cases e; exact q
  | ex x ρ1 => cases e; exact q
/-! ### loops -/
theorem pxs_loop {t : Tg} {tg it : Expr} {body : List Stmt} {ei : Env → Option (List D × Env)} (hd : ∀ i ∈ t.slots, i ∉ io) (hi : PXI X tg it ei) (hb : PXSs X io W body xb) (h : PS X st (tFor (tIt X.K ei) (gT X.K t) (tX X.K io W xb))) :
    PXS X io W st (fun ρ => (ei ρ).bind fun p => forL (bindT t) xb p.1 p.2) := ps_imp h fun D σ H ⟨Gf, N, ts, ρ, hl, hs, fl, e, q⟩ => by
  obtain ⟨⟨items, ρ0⟩, e1, e⟩ := bnd e
  refine ⟨Gf, N, ts, ρ, hl, hs, _, e1, fun J P cs0 H1 wk hp0 h1 => ?_⟩
  refine ⟨fun i m σ' H' => m = items.length - i ∧ i ≤ items.length ∧ ∃ ρi cs, P i cs ∧ Agree io σ σ' ∧ σ'.length = ρi.length ∧ SR X.K Gf N H' (cs ++ (ts ++ σ'.zip ρi)) ∧ forL (bindT t) xb (items.drop i) ρi = some fl,
    ⟨items.length, by simp, Nat.zero_le _, ρ0, cs0, hp0, .refl, hl.trans (hi.ln _ _ e1).symm, h1, by simpa using e⟩, ?_⟩
  rintro i m σ' H' ⟨rfl, hle, ρi, cs, hp, ag, lr, hS, hC⟩
  obtain ⟨wg, ws⟩ := wk i cs hp hS
  by_cases hlt : i < items.length
  · refine .inr ?_
    have ed : items[i]? = some items[i] := List.getElem?_eq_getElem hlt
    rw [List.drop_eq_getElem_cons hlt] at hC
    simp only [forL] at hC
    obtain ⟨ρ1, e3, hC⟩ := bnd hC
    obtain ⟨f1, e4, hC⟩ := bnd hC
    obtain ⟨go, yl⟩ := wg _ ed
    refine ⟨go, fun σ2 H2 => ∃ ρi cs, P (i + 1) cs ∧ Agree io σ σ2 ∧ σ2.length = ρi.length ∧ SR X.K Gf N H2 (cs ++ (ts ++ σ2.zip ρi)) ∧ forL (bindT t) xb (items.drop (i + 1)) ρi = some fl,
      fun σ2 H2 h2 => ⟨items.length - (i + 1), by omega, rfl, by omega, h2⟩, fun x H2 y => ?_⟩
    obtain ⟨cs', hp', hy⟩ := yl x H2 y
    have h3 : SR X.K Gf N H2 (tmp x items[i] :: ((cs' ++ ts) ++ σ'.zip ρi)) := by rw [List.append_assoc]; exact hy
    refine tg_ok t lr h3 e3 fun σ2 H3 sm l1 h4 => ?_
    have ag2 : Agree io σ σ2 := ag.trans (sm.agree hd)
    refine ⟨Gf, N, cs' ++ ts, ρ1, by rw [sm.1, lr, l1], h4, f1, e4, ?_⟩
    cases f1 with
    | nx ρ2 => exact fun σ3 H4 a l h5 => ⟨ρ2, cs', hp', ag2.trans a, l, by rw [← List.append_assoc]; exact h5, hC⟩
    | ct ρ2 => exact fun σ3 H4 a l h5 => ⟨ρ2, cs', hp', ag2.trans a, l, by rw [← List.append_assoc]; exact h5, hC⟩
    | bk ρ2 =>
      cases hC
      exact fun σ3 H4 a l h5 => q σ3 H4 (ag2.trans a) l (by rw [List.append_assoc] at h5; exact h5.dropL)
    | rt d ρ2 =>
      cases hC
      refine fun v σ3 H4 a l h5 => q v σ3 H4 (ag2.trans a) l ?_
      have h6 : SR X.K Gf N H4 (cs' ++ (tmp v d :: (ts ++ σ3.zip ρ2))) := by
        refine h5.perm ?_
        rw [List.append_assoc]
        exact List.perm_middle.symm
      exact h6.dropL
    | ex x ρ2 =>
      cases hC
      refine fun cls d σ3 H4 a l h5 => q cls d σ3 H4 (ag2.trans a) l (h5.imp fun ts' h6 => ?_)
      have h7 : SR X.K Gf N H4 (cs' ++ (ts' ++ (ts ++ σ3.zip ρ2))) := by
        refine h6.perm ?_
        simp only [← List.append_assoc]
        exact (List.perm_append_comm.append_right _).append_right _
      exact h7.dropL
  · refine .inl ⟨ws (show items.length ≤ i by omega), ?_⟩
    rw [List.drop_of_length_le (by omega)] at hC
    simp only [forL] at hC
    cases hC
    exact q σ' H' ag lr hS.dropL
theorem pxs_whl {c : Expr} {body : List Stmt} (hc : PXT X c (asT ea)) (hb : PXSs X io W body xb) (h : PS X st (tWhile (tIT X.K (asT ea)) (tX X.K io W xb))) : PXS X io W st (fun ρ => whlD (asT ea) xb ρ) := ps_imp h fun D σ H ⟨Gf, N, ts, ρ, hl, hs, fl, e, q⟩ => by
  obtain ⟨n, e⟩ := whlD_some e
  refine ⟨fun n σ' H' => ∃ ρi, Agree io σ σ' ∧ σ'.length = ρi.length ∧ SR X.K Gf N H' (ts ++ σ'.zip ρi) ∧ whlN (asT ea) xb n ρi = some fl, ⟨n, ρ, .refl, hl, hs, e⟩, ?_⟩
  rintro m σ' H' ⟨ρi, ag, lr, hS, hC⟩
  cases m with
  | zero => simp [whlN] at hC
  | succ m =>
    unfold whlN at hC
    obtain ⟨⟨k, ρ1⟩, e1, hC⟩ := bnd hC
    have l1 : ρ1.length = ρi.length := hc.ln _ _ e1
    refine ⟨Gf, N, ts, ρi, lr, hS, _, e1, fun H1 h1 => ?_⟩
    cases k with
    | false =>
      cases hC
      exact iteF (q σ' H1 ag (lr.trans l1.symm) h1)
    | true =>
      refine iteT ?_
      obtain ⟨f1, e2, hC⟩ := bnd hC
      refine ⟨fun σ2 H2 => ∃ ρi, Agree io σ σ2 ∧ σ2.length = ρi.length ∧ SR X.K Gf N H2 (ts ++ σ2.zip ρi) ∧ whlN (asT ea) xb m ρi = some fl, fun σ2 H2 h2 => ⟨m, by omega, h2⟩, Gf, N, ts, ρ1, lr.trans l1.symm, h1, f1, e2, ?_⟩
      cases f1 with
      | nx ρ2 => exact fun σ3 H4 a l h5 => ⟨ρ2, ag.trans a, l, h5, hC⟩
      | ct ρ2 => exact fun σ3 H4 a l h5 => ⟨ρ2, ag.trans a, l, h5, hC⟩
      | bk ρ2 => cases hC; exact fun σ3 H4 a l h5 => q σ3 H4 (ag.trans a) l h5
      | rt d ρ2 => cases hC; exact fun v σ3 H4 a l h5 => q v σ3 H4 (ag.trans a) l h5
      | ex x ρ2 => cases hC; exact fun cls d σ3 H4 a l h5 => q cls d σ3 H4 (ag.trans a) l h5
end
end FL

/-! X7: a slice stored; two items stored at once. -/
namespace FL
open PySem PySem.Spec PyProof.Rows L2 StX
section
variable {X : Cx}
/-- x[lo:hi] = v of another list -/
def gSlc (to tl th : TE) : TG := fun v σ H Q => to σ H fun o H1 => tl σ H1 fun l H2 => th σ H2 fun u H3 => ∃ a b xs ys i j, o = .ref a ∧ v = .ref b ∧ l = .int i ∧ u = .int j ∧ H3 a = some (.lst xs) ∧ H3 b = some (.lst ys) ∧ a ≠ b ∧ 0 ≤ i ∧ i ≤ j ∧ j ≤ xs.length ∧ xs.length + ys.length ≤ sizeLine ∧ Q σ (upd H3 a (.lst (xs.take i.toNat ++ ys ++ xs.drop j.toNat)))
theorem pg_slc {o lo hi : Expr} {to tl th : TE} {p2 pos : Pos} (ho : PE X o to) (hl : PE X lo tl) (hh : PE X hi th) : PG X (.Subscript o (.Slice (some lo) (some hi) none p2) pos) (gSlc to tl th) := by
  refine ⟨fun pins s σ H v u Q I r h => ?_⟩
  have ha : assign (.Subscript o (.Slice (some lo) (some hi) none p2) pos) X.env u = (do
      let ov ← holding [u] (eval o X.env)
      let iv ← holding [u, ov] (eval (.Slice (some lo) (some hi) none p2) X.env)
      standAt pos
      holding [u, ov, iv] (setItem ov iv u)
      release [iv, u, ov] []) := by rfl
  rw [ha]
  refine wpAny_bind (wpAny_holding (thn (ho.run pins s σ H _ I h) fun ov s1 ⟨x, H1, I1, r1, q1⟩ => ?_))
  refine wpAny_bind (wpAny_holding (wpAny_Slice ?_))
  rw [evalPart_some]
  refine thn (hl.run pins s1 σ H1 _ I1 q1) fun vl s2 ⟨l, H2, I2, r2, q2⟩ => ?_
  rw [evalPart_some]
  refine thn (hh.run pins s2 σ H2 _ I2 q2) fun vu s3 ⟨w, H3, I3, r3, q3⟩ => ?_
  rw [evalPart_none]
  refine wpAny_pure ?_
  have I4 : Inv X pins σ H3 { s3 with heap := s3.heap.push { cls := .type "slice", data := .fields #[vl, vu, .none] } } := I3.kept (t' := s3.toks) fun b ob q => Heap.get?_push_of_some _ q
  obtain ⟨a, b, xs, ys, i, j, rfl, rfl, rfl, rfl, hA, hB, hne, h0, h1, h2, hz, q⟩ := q3
  cases r1
  cases r
  refine wpAny_bind (wpAny_standAt (wpAny_bind (wpAny_holding (set_slice I4 hA hB hne (Heap.IsSliceOf.new ..) r2 r3 h0 h1 h2 hz fun s' I' => ?_))))
  exact wpAny_release ⟨σ, _, I', q⟩
end
section
variable {K : PySem.W.Frag} {Gf H : Hp} {N : List Addr} {rs : List Root}
theorem Reps.cut {G H : Hp} {vs : List V} {ds : List D} {F : List Addr} (r : Reps K G H vs ds F) (n : Nat) : ∃ A C, F = A ++ C ∧ Reps K G H (vs.take n) (ds.take n) A ∧ Reps K G H (vs.drop n) (ds.drop n) C := by
  have r' := r
  rw [← List.take_append_drop n ds] at r'
  obtain ⟨us, us', A, C, e1, e2, h1, h2⟩ := r'.split
  have l1 := h1.length
  have lr := r.length
  rw [List.length_take] at l1
  have e3 : vs.take n = us := by
    rw [e1]
    by_cases hn : n ≤ ds.length
    · rw [List.take_append_of_le_length (by omega), List.take_of_length_le (by omega)]
    · have l2 := h2.length
      rw [List.length_drop] at l2
      have : us' = [] := List.length_eq_zero_iff.mp (by omega)
      rw [this, List.append_nil, List.take_of_length_le (by omega)]
  have e4 : vs.drop n = us' := by
    have := List.take_append_drop n vs
    rw [e3] at this
    exact List.append_cancel_left (this.trans e1)
  rw [e3, e4]
  exact ⟨A, C, e2, h1, h2⟩
theorem SR.splice {a b : Addr} {ds es : List D} (h : SR K Gf N H (tmp (.ref a) (.lst .own ds) :: tmp (.ref b) (.lst .own es) :: rs)) :
    ∃ vs us, H a = some (.lst vs) ∧ H b = some (.lst us) ∧ a ≠ b ∧ vs.length = ds.length ∧ us.length = es.length ∧ ∀ i j, i ≤ j → SR K Gf N (upd H a (.lst (vs.take i ++ us ++ vs.drop j))) (tmp (.ref a) (.lst .own (ds.take i ++ es ++ ds.drop j)) :: rs) := by
  have hne : a ≠ b := by
    rintro rfl
    obtain ⟨n, F, nd, r, g⟩ := h
    cases r with
    | cons x r =>
      cases r with
      | cons y r =>
        cases x
        cases y
        simp at nd
  obtain ⟨b', us, e0, cb, lb⟩ := h.swap2.contV rfl
  cases e0
  obtain ⟨vs, e, l, f⟩ := SR.writeL (ms := [tmp (.ref b) (.lst .own es)]) h
  have eb : H b = some (.lst us) := cb.2 (by decide)
  refine ⟨vs, us, e, eb, hne, l, lb, fun i j hij => f _ _ fun G F1 Fm r m nd => ?_⟩
  have m1 := ms1 m
  cases m1 with
  | lstO e2 q =>
    rename_i us' Fy
    rw [eb] at e2
    cases e2
    obtain ⟨A, C, rfl, ra, rc⟩ := r.cut j
    obtain ⟨A1, A2, rfl, ra1, _⟩ := ra.cut i
    rw [List.take_take, List.take_take, Nat.min_eq_left hij] at ra1
    refine ⟨A1 ++ Fy ++ C, (ra1.append q).append rc, fun x hx => ?_, ?_⟩
    · simp only [List.mem_append, List.mem_cons] at hx ⊢
      rcases hx with (z | z) | z <;> simp [z]
    · simp only [List.nodup_append, List.mem_append, List.mem_cons, List.nodup_cons] at nd ⊢
      obtain ⟨⟨⟨n1, n2, d1⟩, n3, d2⟩, ⟨n4, n5⟩, d3⟩ := nd
      refine ⟨⟨n1, n5, fun x hx y hy => d3 x (.inl (.inl hx)) y (.inr hy)⟩, n3, fun x hx y hy => ?_⟩
      rcases hx with hx | hx
      · exact d2 x (.inl hx) y hy
      · exact fun z => d3 y (.inr hy) x (.inr hx) z.symm
end
section
variable {X : Cx} {io : List Nat} {W : WX} {st : Stmt} {ea eb ec : Env → Option (D × Env)}
theorem slcS_some {x a b d z : D} (h : slcS x a b d = some z) : ∃ xs i j ys, x = .lst .own xs ∧ a = .int i ∧ b = .int j ∧ d = .lst .own ys ∧ 0 ≤ i ∧ i ≤ j ∧ j ≤ xs.length ∧ xs.length + ys.length ≤ SZ ∧ z = .lst .own (xs.take i.toNat ++ ys ++ xs.drop j.toNat) := by
  unfold slcS at h
  split at h
  · split at h
    · rename_i c
      cases h
      exact ⟨_, _, _, _, rfl, rfl, rfl, rfl, c.1, c.2.1, c.2.2.1, c.2.2.2, rfl⟩
    · cases h
  · cases h
theorem pxs_setS {i : Nat} (la : Ln ea) (lb : Ln eb) (lc : Ln ec) (h : PS X st (tAsg (tI X.K ea) (gSlc (tVar i) (tI X.K eb) (tI X.K ec)))) :
    PXS X io W st (fun ρ => (ea ρ).bind fun p => (getS p.2 i).bind fun _ => (eb p.2).bind fun q => (ec q.2).bind fun r => (getS r.2 i).bind fun x => (slcS x q.1 r.1 p.1).map fun z => .nx (r.2.set i (some z))) := ps_imp h fun D σ H ⟨Gf, N, ts, ρ, hl, hs, fl, e, q⟩ => by
  obtain ⟨p, e1, e⟩ := bnd e
  obtain ⟨x0, e0, e⟩ := bnd e
  obtain ⟨pb, e2, e⟩ := bnd e
  obtain ⟨pc, e5, e⟩ := bnd e
  obtain ⟨x, e3, e⟩ := bnd e
  obtain ⟨z, e4, rfl⟩ := mpd e
  obtain ⟨xs, k, j, ys, rfl, ek, ej, ed, h0, h1', h2', hz, rfl⟩ := slcS_some e4
  have l1 := la _ _ e1
  have l2 := lb _ _ e2
  have l3 := lc _ _ e5
  refine ⟨Gf, N, ts, ρ, hl, hs, p, e1, fun v H1 h1 => ?_⟩
  obtain ⟨w, ew⟩ := SR.slotV (ts := tmp v p.1 :: ts) h1 (hl.trans l1.symm) e0
  refine ⟨w, ew, Gf, N, tmp v p.1 :: ts, p.2, hl.trans l1.symm, h1, pb, e2, fun y H2 h2 => ?_⟩
  refine ⟨Gf, N, tmp y pb.1 :: tmp v p.1 :: ts, pb.2, (hl.trans l1.symm).trans l2.symm, h2, pc, e5, fun y2 H3 h3 => ?_⟩
  have h4 := SR.take (ts := tmp y2 pc.1 :: tmp y pb.1 :: tmp v p.1 :: ts) h3 e3 ew
  rw [ek, ej, ed] at h4
  have h5 : SR X.K Gf N H3 (tmp w (.lst .own xs) :: tmp y2 (.int j) :: tmp y (.int k) :: tmp v (.lst .own ys) :: (ts ++ σ.zip (pc.2.set i none))) := h4
  have hy2 : y2 = .int j := SR.isInt h5.swap2
  have h6 := h5.dropMid
  have hy : y = .int k := SR.isInt h6.swap2
  have h7 := h6.dropMid
  obtain ⟨a, vs, ea', ca, la'⟩ := h7.contV rfl
  obtain ⟨b, us, eb', cb, lb'⟩ := h7.swap2.contV rfl
  subst ea' eb'
  obtain ⟨vs', us', ev', eu', hne, lv', lu', f⟩ := h7.splice
  refine ⟨a, b, vs', us', k, j, rfl, rfl, hy, hy2, ev', eu', hne, h0, h1', by rw [lv']; exact h2', by rw [lv', lu', sizeLine_eq]; exact hz, ?_⟩
  have h8 := f k.toNat j.toNat (by omega)
  have h9 := SR.put (ts := ts) (σ := σ) (i := i) h8 (by rw [len_set]; exact getS_lt e3) ew
  rw [List.set_set] at h9
  exact q σ _ .refl (by rw [len_set, l3, l2, l1]; exact hl) h9
/-- x[b] = d, as a part of a target -/
theorem g_set {i : Nat} (lb : Ln eb) {σ : L2.St} {H : Hp} {Q : L2.St → Hp → Prop} {Gf : Hp} {N : List Addr} {ts : List Root} {ρ ρ' : Env} {v : V} {d : D} (hl : σ.length = ρ.length) (h1 : SR X.K Gf N H (tmp v d :: (ts ++ σ.zip ρ)))
    (e : ((getS ρ i).bind fun _ => (eb ρ).bind fun q => (getS q.2 i).bind fun x => (setID x q.1 d).map fun z => q.2.set i (some z)) = some ρ')
    (k : ∀ H', σ.length = ρ'.length → SR X.K Gf N H' (ts ++ σ.zip ρ') → Q σ H') : gSub (tVar i) (tI X.K eb) rSetL v σ H Q := by
  obtain ⟨x0, e0, e⟩ := bnd e
  obtain ⟨pb, e2, e⟩ := bnd e
  obtain ⟨x, e3, e⟩ := bnd e
  obtain ⟨z, e4, rfl⟩ := mpd e
  obtain ⟨xs, kk, j, rfl, ek, ej, rfl⟩ := setID_some e4
  have l2 := lb _ _ e2
  obtain ⟨w, ew⟩ := SR.slotV (ts := tmp v d :: ts) h1 hl e0
  refine ⟨w, ew, Gf, N, tmp v d :: ts, ρ, hl, h1, pb, e2, fun y H2 h2 => ?_⟩
  have h3 := SR.take (ts := tmp y pb.1 :: tmp v d :: ts) h2 e3 ew
  rw [ek] at h3
  have h4 : SR X.K Gf N H2 (tmp w (.lst .own xs) :: tmp v d :: (ts ++ σ.zip (pb.2.set i none))) := h3.dropMid
  have hy : y = .int kk := SR.isInt (v := y) h3.swap2
  obtain ⟨a, vs, ea', ca, la'⟩ := h4.contV rfl
  subst ea'
  obtain ⟨vs', ev', lv', f⟩ := h4.setAt
  refine ⟨a, vs', kk, j, rfl, hy, ev', by rw [lv']; exact ej, ?_⟩
  have h5 := f j (ixN_lt ej)
  have h6 := SR.put (ts := ts) (σ := σ) (i := i) h5 (by rw [len_set]; exact getS_lt e3) ew
  rw [List.set_set] at h6
  exact k _ (by rw [len_set, l2]; exact hl) h6
theorem pxs_swp {i j : Nat} (la : Ln ea) (lb : Ln eb) (lc : Ln ec) (h : PS X st (tAsg (tI X.K ea) (gTup X.K 2 (gCons (gSub (tVar i) (tI X.K eb) rSetL) (gCons (gSub (tVar j) (tI X.K ec) rSetL) gNil))))) :
    PXS X io W st (fun ρ => (ea ρ).bind fun p => (g2 eb ec i j p.1 p.2).map .nx) := ps_imp h fun D σ H ⟨Gf, N, ts, ρ, hl, hs, fl, e, q⟩ => by
  obtain ⟨p, e1, e⟩ := bnd e
  obtain ⟨ρ2, e2, rfl⟩ := mpd e
  have l1 := la _ _ e1
  refine ⟨Gf, N, ts, ρ, hl, hs, p, e1, fun v H1 h1 => ?_⟩
  obtain ⟨d, ρ0⟩ := p
  unfold g2 at e2
  simp only at e2 h1 l1
  split at e2
  · rename_i d1 d2
    obtain ⟨ρ1, e3, e4⟩ := bnd e2
    obtain ⟨a, vs, rfl, sq, lv, h2⟩ := h1.untup
    obtain ⟨v1, v2, rfl⟩ : ∃ v1 v2, vs = [v1, v2] := by
      match vs, lv with
      | [v1, v2], _ => exact ⟨v1, v2, rfl⟩
    refine ⟨a, [v1, v2], rfl, sq, rfl, v1, [v2], rfl, ?_⟩
    have h3 : SR X.K Gf N H1 (tmp v1 d1 :: (tmp v2 d2 :: ts ++ σ.zip ρ0)) := h2
    refine g_set lb (hl.trans l1.symm) h3 e3 fun H2 l2 h4 => ?_
    refine ⟨v2, [], rfl, ?_⟩
    have h5 : SR X.K Gf N H2 (tmp v2 d2 :: (ts ++ σ.zip ρ1)) := h4
    refine g_set lc l2 h5 e4 fun H3 l3 h6 => ?_
    exact ⟨rfl, q σ _ .refl l3 h6⟩
  · cases e2
end
end FL

/-! P1: a place within a container: taken out (a hole stays), changed, put back. -/
namespace FL
open PySem PySem.Spec PyProof.Rows L2
section
variable {K : PySem.W.Frag} {G H Gf : Hp} {N : List Addr} {rs : List Root} {v : V} {d : D}
theorem perm_mid {α : Type} (P B R : List α) : (P ++ (B ++ R)).Perm (B ++ (P ++ R)) := by
  rw [← List.append_assoc, ← List.append_assoc]; exact List.perm_append_comm.append_right _
theorem mem_more {α : Type} {A B N : List α} (h : ∀ a, a ∈ A ↔ a ∈ B) (a : α) : a ∈ B ++ N ↔ a ∈ A ++ N := by rw [List.mem_append, List.mem_append, h a]
theorem Reps.outJ : ∀ {vs : List V} {ds : List D} {F : List Addr} {j : Nat} {x : D}, Reps K G H vs ds F → ds[j]? = some x → ∃ u A B C, vs[j]? = some u ∧ F = A ++ (B ++ C) ∧ Rep K G H u x B ∧ Reps K G H vs (ds.set j (.hole u)) (A ++ C)
  | _, _, _, _, _, .nil, h => by simp at h
  | _, _, _, 0, x, .cons (v := v) (F1 := F1) (F2 := F2) r t, h => by
    simp at h; subst h
    exact ⟨v, [], F1, F2, rfl, rfl, r, Reps.cons (F1 := []) (.hole v) t⟩
  | _, _, _, j + 1, x, .cons (F1 := F1) r t, h => by
    obtain ⟨u, A, B, C, e, rfl, q, q2⟩ := Reps.outJ (j := j) t (by simpa using h)
    refine ⟨u, F1 ++ A, B, C, by simpa using e, by simp [List.append_assoc], q, ?_⟩
    simp only [List.set_cons_succ]
    rw [List.append_assoc]
    exact .cons r q2
theorem Reps.backJ : ∀ {vs : List V} {ds : List D} {F Fx : List Addr} {j : Nat} {u : V} {x : D}, Reps K G H vs ds F → ds[j]? = some (.hole u) → Rep K G H u x Fx → ∃ A C, F = A ++ C ∧ Reps K G H vs (ds.set j x) (A ++ (Fx ++ C))
  | _, _, _, _, _, _, _, .nil, h, _ => by simp at h
  | _, _, _, Fx, 0, u, x, .cons (F1 := F1) (F2 := F2) r t, h, q => by
    simp at h; subst h
    cases r
    exact ⟨[], F2, rfl, Reps.cons (F1 := Fx) q t⟩
  | _, _, _, Fx, j + 1, u, x, .cons (F1 := F1) r t, h, q => by
    obtain ⟨A, C, rfl, q2⟩ := Reps.backJ (j := j) t (by simpa using h) q
    refine ⟨F1 ++ A, C, by simp [List.append_assoc], ?_⟩
    simp only [List.set_cons_succ]
    rw [List.append_assoc]
    exact .cons r q2
theorem ownC_cont (h : ownC d = true) : isCont d = true := by
  cases d <;> simp_all [ownC, isCont]
theorem Rep.contO {F : List Addr} (h : Rep K G H v d F) (hc : ownC d = true) : ∃ vs F0 F1, F = F0 ++ F1 ∧ Reps K G H vs (itemsD d) F1 ∧ ∀ ds' F', Reps K G H vs ds' F' → Rep K G H v (setSeq d ds') (F0 ++ F') := by
  cases h with
  | tup s r => exact ⟨_, [], _, rfl, r, fun ds' F' r' => .tup s r'⟩
  | lstO s r => exact ⟨_, [_], _, rfl, r, fun ds' F' r' => .lstO s r'⟩
  | _ => cases hc
theorem SR.out (h : SR K Gf N H (tmp v d :: rs)) (hc : ownC d = true) : ∃ a vs, v = .ref a ∧ Cont K H a vs d ∧ vs.length = (itemsD d).length ∧
    ∀ j x, (itemsD d)[j]? = some x → ∃ u, vs[j]? = some u ∧ SR K Gf N H (tmp u x :: tmp v (setSeq d ((itemsD d).set j (.hole u))) :: rs) := by
  obtain ⟨n, F, nd, r, g⟩ := h
  cases r with
  | cons y r =>
    rename_i Fy F2
    obtain ⟨a, vs, F0, F1, e, eF, c, q, _, mk⟩ := y.cont hid_le (ownC_cont hc)
    refine ⟨a, vs, e, c, q.length, fun j x hj => ?_⟩
    obtain ⟨u, A, B, C, eu, e1, sh, q2⟩ := q.outJ hj
    subst e1 eF
    have pm : (F0 ++ (A ++ (B ++ C)) ++ F2).Perm (B ++ ((F0 ++ (A ++ C)) ++ F2)) := by
      have p1 : (F0 ++ (A ++ (B ++ C)) ++ F2) = (F0 ++ A) ++ (B ++ (C ++ F2)) := by simp [List.append_assoc]
      have p2 : (B ++ ((F0 ++ (A ++ C)) ++ F2)) = B ++ ((F0 ++ A) ++ (C ++ F2)) := by simp [List.append_assoc]
      rw [p1, p2]
      exact perm_mid _ _ _
    have me : ∀ a, a ∈ F0 ++ (A ++ (B ++ C)) ++ F2 ↔ a ∈ B ++ ((F0 ++ (A ++ C)) ++ F2) := fun a => pm.mem_iff
    refine ⟨u, eu, n, B ++ ((F0 ++ (A ++ C)) ++ F2), pm.nodup_iff.mp nd, ?_, ?_⟩
    · rw [hid_congr (F' := F0 ++ (A ++ (B ++ C)) ++ F2 ++ N) (mem_more me)]
      refine .cons sh (.cons (mk _ _ _ Le.refl q2 fun z => ?_) r)
      have := congrArg List.length z
      simp at this
      apply List.length_eq_zero_iff.mp
      simp [this]
    · rw [hid_congr (F' := F0 ++ (A ++ (B ++ C)) ++ F2) fun a => (me a).symm]; exact g
theorem SR.back {u : V} {x : D} {j : Nat} (h : SR K Gf N H (tmp u x :: tmp v d :: rs)) (hc : ownC d = true) (hj : (itemsD d)[j]? = some (.hole u)) : SR K Gf N H (tmp v (setSeq d ((itemsD d).set j x)) :: rs) := by
  obtain ⟨n, F, nd, r, g⟩ := h
  cases r with
  | cons y r =>
    rename_i Fx F3
    cases r with
    | cons z r =>
      rename_i Fz F2
      obtain ⟨vs, F0, F1, eF, q, mk⟩ := z.contO hc
      obtain ⟨A, C, e1, q2⟩ := q.backJ hj y
      subst e1 eF
      have pm : (Fx ++ (F0 ++ (A ++ C) ++ F2)).Perm ((F0 ++ (A ++ (Fx ++ C))) ++ F2) := by
        have p1 : (Fx ++ (F0 ++ (A ++ C) ++ F2)) = Fx ++ ((F0 ++ A) ++ (C ++ F2)) := by simp [List.append_assoc]
        have p2 : ((F0 ++ (A ++ (Fx ++ C))) ++ F2) = (F0 ++ A) ++ (Fx ++ (C ++ F2)) := by simp [List.append_assoc]
        rw [p1, p2]
        exact (perm_mid _ _ _).symm
      have me : ∀ a, a ∈ Fx ++ (F0 ++ (A ++ C) ++ F2) ↔ a ∈ (F0 ++ (A ++ (Fx ++ C))) ++ F2 := fun a => pm.mem_iff
      refine ⟨n, (F0 ++ (A ++ (Fx ++ C))) ++ F2, pm.nodup_iff.mp nd, ?_, ?_⟩
      · rw [hid_congr (F' := Fx ++ (F0 ++ (A ++ C) ++ F2) ++ N) (mem_more me)]
        exact .cons (mk _ _ q2) r
      · rw [hid_congr (F' := Fx ++ (F0 ++ (A ++ C) ++ F2)) fun a => (me a).symm]; exact g
end
/-! ### places -/
theorem setSeq_own {d : D} {ds : List D} (h : ownC d = true) : ownC (setSeq d ds) = true := by
  cases d with
  | lst o xs => cases o <;> first | rfl | cases h
  | tup xs => rfl
  | _ => cases h
theorem items_setSeq {d : D} {ds : List D} (h : ownC d = true) : itemsD (setSeq d ds) = ds := by
  cases d <;> simp_all [ownC, setSeq, itemsD]
theorem setSeq_setSeq {d : D} {ds ds' : List D} : setSeq (setSeq d ds) ds' = setSeq d ds' := by
  cases d <;> simp [setSeq]
theorem get1_some {d y : D} {n : Int} (h : get1 d n = some y) : ∃ j, ownC d = true ∧ ixN (itemsD d).length n = some j ∧ (itemsD d)[j]? = some y := by
  unfold get1 at h
  split at h
  · obtain ⟨j, e1, e2⟩ := Option.bind_eq_some_iff.mp h
    exact ⟨j, by assumption, e1, e2⟩
  · cases h
theorem put1_some {d y z : D} {n : Int} (h : put1 d n y = some z) : ∃ j, ownC d = true ∧ ixN (itemsD d).length n = some j ∧ z = setSeq d ((itemsD d).set j y) := by
  unfold put1 at h
  split at h
  · obtain ⟨j, e1, e2⟩ := Option.map_eq_some_iff.mp h
    exact ⟨j, by assumption, e1, e2.symm⟩
  · cases h
section
variable {X : Cx}
/-- what is taken out can be put back -/
def Backs (K : PySem.W.Frag) (ρ : Env) (p : Pl) (v u : V) (zs : List Root) : Prop := ∀ Gf N H rs y x, putP ρ p y = some x → SR K Gf N H (tmp u y :: (zs ++ rs)) → SR K Gf N H (tmp v x :: rs)
def tPl (K : PySem.W.Frag) (p : Pl) : TE := fun σ H Q => ∃ Gf N ts ρ, σ.length = ρ.length ∧ SR K Gf N H (ts ++ σ.zip ρ) ∧ ∃ y, getP ρ p = some y ∧
  ∀ v u zs, σ[p.base]? = some (some v) → SR K Gf N H (tmp u y :: (zs ++ (ts ++ σ.zip (ρ.set p.base none)))) → Backs K ρ p v u zs → Q u H
def tIx (K : PySem.W.Frag) (ix : Ix) : TE := fun σ H Q => ∃ Gf N ts ρ, σ.length = ρ.length ∧ SR K Gf N H (ts ++ σ.zip ρ) ∧ ∃ n, ixD ρ ix = some n ∧ Q (.int n) H
theorem intS_some {ρ : Env} {i : Nat} {n : Int} (h : intS ρ i = some n) : getS ρ i = some (.int n) := by
  unfold intS at h
  split at h
  · cases h; assumption
  · cases h
theorem SR.slotI {K : PySem.W.Frag} {Gf H : Hp} {N : List Addr} {ts : List Root} {σ : L2.St} {ρ : Env} {i : Nat} {n : Int} (hs : SR K Gf N H (ts ++ σ.zip ρ)) (hl : σ.length = ρ.length) (e : intS ρ i = some n) : σ[i]? = some (some (.int n)) := by
  have e' := intS_some e
  obtain ⟨v, ev⟩ := hs.slotV hl e'
  have := (hs.take e' ev).isInt
  rw [ev, this]
theorem pe_nm {i : Nat} {e : Expr} (h : PE X e (tVar i)) : PE X e (tPl X.K (.nm i)) := pe_imp h fun σ H Q ⟨Gf, N, ts, ρ, hl, hs, y, e, q⟩ => by
  obtain ⟨v, ev⟩ := hs.slotV hl e
  refine ⟨v, ev, q v v [] ev (hs.take e ev) fun Gf N H rs y x e h => ?_⟩
  cases e
  exact h
theorem pe_subP {p : Pl} {ix : Ix} {a b : Expr} {pos : Pos} (ha : PE X a (tPl X.K p)) (hb : PE X b (tIx X.K ix)) (hs : PlainIx b) : PE X (.Subscript a b pos) (tPl X.K (.sub p ix)) := pe_imp (pe_ix ixr_X ha hb hs) fun σ H Q ⟨Gf, N, ts, ρ, hl, hs, y, e, q⟩ => by
  obtain ⟨x, e1, e⟩ := bnd e
  obtain ⟨n, e2, e3⟩ := bnd e
  obtain ⟨j, ho, ej, ey⟩ := get1_some e3
  refine ⟨Gf, N, ts, ρ, hl, hs, x, e1, fun v u zs ev h1 bk => ?_⟩
  refine ⟨Gf, N, ts, ρ, hl, hs, n, e2, ?_⟩
  obtain ⟨a', vs, eu, c, l, f⟩ := h1.out ho
  subst eu
  obtain ⟨u', eu', h2⟩ := f j y ey
  have fin : Q u' H := q v u' (tmp (.ref a') (setSeq x ((itemsD x).set j (.hole u'))) :: zs) ev h2 fun Gf N H rs y' z ez hz => by
    obtain ⟨x0, f1, ez⟩ := bnd ez
    rw [e1] at f1; cases f1
    obtain ⟨n0, f2, ez⟩ := bnd ez
    rw [e2] at f2; cases f2
    obtain ⟨x1, f3, ez⟩ := bnd ez
    obtain ⟨j0, _, ej0, rfl⟩ := put1_some f3
    rw [ej] at ej0; cases ej0
    refine bk Gf N H rs _ z ez ?_
    have hj : j < (itemsD x).length := (List.getElem?_eq_some_iff.mp ey).1
    have h3 := SR.back (j := j) hz (setSeq_own ho) (by rw [items_setSeq ho]; simp [hj])
    rw [items_setSeq ho, setSeq_setSeq, List.set_set] at h3
    exact h3
  cases x with
  | tup ds => exact .inr ⟨a', vs, n, u', rfl, rfl, c, atI_mk l ej eu', fin⟩
  | lst o ds => exact .inl ⟨a', vs, n, u', rfl, rfl, c.1, atI_mk l ej eu', fin⟩
  | _ => simp [ownC] at ho
end
end FL

/-! P2: statements that change a place. -/
namespace FL
open PySem PySem.Spec PyProof.Rows L2
section
variable {K : PySem.W.Frag} {G H Gf : Hp} {N : List Addr} {rs : List Root} {v : V} {d : D}
theorem Reps.rev : ∀ {vs : List V} {ds : List D} {F : List Addr}, Reps K G H vs ds F → ∃ F', Reps K G H vs.reverse ds.reverse F' ∧ F'.Perm F
  | _, _, _, .nil => ⟨[], .nil, .refl _⟩
  | _, _, _, .cons (v := v) (d := d) (F1 := F1) (F2 := F2) r t => by
    obtain ⟨F', q, p⟩ := Reps.rev t
    refine ⟨F' ++ (F1 ++ []), ?_, ?_⟩
    · simp only [List.reverse_cons]
      exact q.append (.cons r .nil)
    · rw [List.append_nil]
      exact (List.perm_append_comm).trans (p.append_left _)
theorem lstO_some {x : D} {ds : List D} (h : lstO x = some ds) : x = .lst .own ds := by
  unfold lstO at h
  split at h
  · cases h; rfl
  · cases h
def rM : MOp → V → List V → Hp → VK → Prop
  | .app => rAppend
  | .clr => rClear
  | .rev => rReverse
  | .pop => rPop
  | .popI => rPopAt
  | .ext => rExtend
  | .ins => fun x vs H Q => ∃ (l : Addr) (xs : List V) (i : Int) (y : V), x = .ref l ∧ vs = [.int i, y] ∧ H l = some (.lst xs) ∧ xs.length < sizeLine ∧ 0 ≤ i ∧ i < 2 ^ 63 ∧ Q .non (upd H l (.lst (xs.take i.toNat ++ [y] ++ xs.drop i.toNat)))
def mopOk : MOp → Bool
  | .app => true
  | .clr => true
  | .rev => true
  | .pop => true
  | .popI => true
  | .ext => true
  | .ins => true
theorem Reps.erase : ∀ {vs : List V} {ds : List D} {F : List Addr} (j : Nat), Reps K G H vs ds F → ∃ F', Reps K G H (vs.eraseIdx j) (ds.eraseIdx j) F' ∧ F'.Sublist F
  | _, _, _, j, .nil => ⟨[], by simpa using Reps.nil, .slnil⟩
  | _, _, _, 0, .cons (F1 := F1) (F2 := F2) r t => ⟨F2, t, List.sublist_append_right _ _⟩
  | _, _, _, j + 1, .cons (F1 := F1) (F2 := F2) r t => by
    obtain ⟨F', q, s⟩ := Reps.erase j t
    exact ⟨F1 ++ F', .cons r q, (List.Sublist.refl _).append s⟩
theorem Reps.takeD : ∀ {vs : List V} {ds : List D} {F : List Addr} (j : Nat), Reps K G H vs ds F → ∃ A B, F = A ++ B ∧ Reps K G H (vs.take j) (ds.take j) A ∧ Reps K G H (vs.drop j) (ds.drop j) B
  | _, _, _, j, .nil => ⟨[], [], rfl, by simpa using Reps.nil, by simpa using Reps.nil⟩
  | _, _, F, 0, r => ⟨[], F, rfl, .nil, r⟩
  | _, _, _, j + 1, .cons (F1 := F1) (F2 := F2) r t => by
    obtain ⟨A, B, rfl, q1, q2⟩ := Reps.takeD j t
    exact ⟨F1 ++ A, B, by rw [List.append_assoc], .cons r q1, q2⟩
theorem snd_M {op : MOp} {a : Addr} {ds ds' args : List D} {ws : List V} {Q : VK} (ho : mopOk op = true) (h : SR K Gf N H (tmp (.ref a) (.lst .own ds) :: (tmps ws args ++ rs))) (hl : ws.length = args.length) (e : mopD op ds args = some ds')
    (q : ∀ v H', SR K Gf N H' (tmp (.ref a) (.lst .own ds') :: rs) → Q v H') : rM op (.ref a) ws H Q := by
  cases op with
  | app =>
    match args, ws, hl, e, h with
    | [x], [w], _, e, h =>
      simp only [mopD] at e
      split at e
      · cases e
        rename_i hz
        obtain ⟨vs', ev', lv', h4⟩ := SR.push (v := w) (d := x) (rs := rs) h
        exact ⟨a, vs', w, rfl, rfl, ev', by rw [lv', sizeLine_eq]; exact hz, q _ _ h4⟩
      · cases e
    | [], _, _, e, _ => simp [mopD] at e
    | _ :: _ :: _, _, _, e, _ => simp [mopD] at e
  | clr =>
    match args, ws, hl, e, h with
    | [], [], _, e, h =>
      simp only [mopD] at e
      cases e
      obtain ⟨vs', ev', lv', f⟩ := SR.writeL (ms := []) h
      exact ⟨a, vs', rfl, rfl, ev', q _ _ (f [] [] fun G F1 Fm r m nd => ⟨[], .nil, by simp, by simp⟩)⟩
    | _ :: _, _, _, e, _ => simp [mopD] at e
  | rev =>
    match args, ws, hl, e, h with
    | [], [], _, e, h =>
      simp only [mopD] at e
      cases e
      obtain ⟨vs', ev', lv', f⟩ := SR.writeL (ms := []) h
      refine ⟨a, vs', rfl, rfl, ev', q _ _ (f _ _ fun G F1 Fm r m nd => ?_)⟩
      obtain ⟨F', r', p⟩ := r.rev
      exact ⟨F', r', fun b hb => List.mem_append_left _ (p.mem_iff.mp hb), p.nodup_iff.mpr (List.nodup_append.mp nd).1⟩
    | _ :: _, _, _, e, _ => simp [mopD] at e
  | pop =>
    match args, ws, hl, e, h with
    | [], [], _, e, h =>
      simp only [mopD] at e
      split at e
      · cases e
      · rename_i hne
        cases e
        obtain ⟨vs', ev', lv', f⟩ := SR.writeL (ms := []) h
        have hd : ds ≠ [] := by intro z; subst z; simp at hne
        have hlen : 0 < ds.length := List.length_pos_iff.mpr hd
        have hv : vs'[vs'.length - 1]? = some (vs'[vs'.length - 1]'(by omega)) := List.getElem?_eq_getElem (by omega)
        refine ⟨a, vs', _, rfl, rfl, ev', hv, q _ _ (f _ _ fun G F1 Fm r m nd => ?_)⟩
        have e1 : ds = ds.dropLast ++ [ds.getLast hd] := (List.dropLast_concat_getLast hd).symm
        rw [e1] at r
        obtain ⟨us, us', A, B, eu, eF, r1, r2⟩ := Reps.split r
        have e2 : us = vs'.dropLast := by
          have := Reps.length r2
          match us', this with
          | [u], _ => rw [eu]; simp
        rw [e2] at r1
        subst eF
        exact ⟨A, r1, fun b hb => by simp [hb], (List.nodup_append.mp (List.nodup_append.mp nd).1).1⟩
    | _ :: _, _, _, e, _ => simp [mopD] at e
  | popI =>
    match args, ws, hl, e, h with
    | [.int i], [w], _, e, h =>
      simp only [mopD] at e
      split at e
      · rename_i hb
        obtain ⟨j, ej, rfl⟩ := mpd e
        have hw : w = .int i := SR.isInt (v := w) (rs := tmp (.ref a) (.lst .own ds) :: rs) (SR.swap2 h)
        have h' : SR K Gf N H (tmp (.ref a) (.lst .own ds) :: rs) := SR.dropMid h
        obtain ⟨vs', ev', lv', f⟩ := SR.writeL (ms := []) h'
        have hj := ixN_lt ej
        refine ⟨a, vs', i, j, vs'[j]'(by omega), rfl, by rw [hw], ev', by omega, by omega, (ixN_seq (by rw [lv']; exact ej)).1, List.getElem?_eq_getElem _, q _ _ (f _ _ fun G F1 Fm r m nd => ?_)⟩
        obtain ⟨F', r', s⟩ := r.erase j
        exact ⟨F', r', fun b hb => List.mem_append_left _ (s.subset hb), s.nodup (List.nodup_append.mp nd).1⟩
      · cases e
    | [], _, _, e, _ => simp [mopD] at e
    | [.non], _, _, e, _ => simp [mopD] at e
    | [.bl _], _, _, e, _ => simp [mopD] at e
    | [.str _], _, _, e, _ => simp [mopD] at e
    | [.tup _], _, _, e, _ => simp [mopD] at e
    | [.lst _ _], _, _, e, _ => simp [mopD] at e
    | [.obj _ _ _ _], _, _, e, _ => simp [mopD] at e
    | [.hole _], _, _, e, _ => simp [mopD] at e
    | [.dic], _, _, e, _ => simp [mopD] at e
    | [.any], _, _, e, _ => simp [mopD] at e
    | _ :: _ :: _, _, _, e, _ => simp [mopD] at e
  | ext =>
    match args, ws, hl, e, h with
    | [.lst f xs], [w], _, e, h =>
      simp only [mopD] at e
      split at e
      · rename_i hb
        cases e
        have h1 : SR K Gf N H (tmp w (.lst f xs) :: tmp (.ref a) (.lst .own ds) :: rs) := SR.swap2 h
        obtain ⟨b, zs, ew, cz, lz, h2⟩ := SR.items1 h1 rfl
        subst ew
        have lz : zs.length = xs.length := lz
        obtain ⟨vs', ev', lv', f⟩ := SR.writeL (ms := tmps zs (shares xs)) (rs := rs) (SR.toFront h2)
        refine ⟨a, b, vs', zs, rfl, rfl, ev', cz.2 hb.1, by rw [lv', lz, sizeLine_eq]; exact hb.2, q _ _ (f _ _ fun G F1 Fm r m nd => ?_)⟩
        exact ⟨F1 ++ Fm, r.append (tmps_reps (by rw [lz, shares_len]) m), fun b hb => hb, nd⟩
      · cases e
    | [], _, _, e, _ => simp [mopD] at e
    | [.non], _, _, e, _ => simp [mopD] at e
    | [.bl _], _, _, e, _ => simp [mopD] at e
    | [.str _], _, _, e, _ => simp [mopD] at e
    | [.tup _], _, _, e, _ => simp [mopD] at e
    | [.int _], _, _, e, _ => simp [mopD] at e
    | [.obj _ _ _ _], _, _, e, _ => simp [mopD] at e
    | [.hole _], _, _, e, _ => simp [mopD] at e
    | [.dic], _, _, e, _ => simp [mopD] at e
    | [.any], _, _, e, _ => simp [mopD] at e
    | _ :: _ :: _, _, _, e, _ => simp [mopD] at e
  | ins =>
    match args, ws, hl, e, h with
    | [.int i, y], [w, u], _, e, h =>
      simp only [mopD] at e
      split at e
      · rename_i hb
        cases e
        have h0 : SR K Gf N H (tmp w (.int i) :: tmp (.ref a) (.lst .own ds) :: tmp u y :: rs) := SR.swap2 h
        have hw : w = .int i := SR.isInt h0
        obtain ⟨vs', ev', lv', f⟩ := SR.writeL (ms := [tmp u y]) (rs := rs) h0.drop
        refine ⟨a, vs', i, u, rfl, by rw [hw], ev', by rw [lv', sizeLine_eq]; exact hb.2.2, hb.1, by omega, q _ _ (f _ _ fun G F1 Fm r m nd => ?_)⟩
        obtain ⟨A, B, rfl, r1, r2⟩ := r.takeD i.toNat
        have ry : Rep K G H u y Fm := ms1 m
        refine ⟨(A ++ Fm) ++ B, (r1.append (by simpa using Reps.cons ry .nil)).append r2, fun b hb => ?_, ?_⟩
        · simp only [List.mem_append] at hb ⊢
          rcases hb with (h | h) | h
          · exact .inl (.inl h)
          · exact .inr h
          · exact .inl (.inr h)
        · refine List.Perm.nodup ?_ nd
          rw [List.append_assoc, List.append_assoc]
          exact (List.perm_append_comm).append_left _
      · cases e
    | [], _, _, e, _ => simp [mopD] at e
    | [_], _, _, e, _ => simp [mopD] at e
    | [.non, _], _, _, e, _ => simp [mopD] at e
    | [.bl _, _], _, _, e, _ => simp [mopD] at e
    | [.str _, _], _, _, e, _ => simp [mopD] at e
    | [.tup _, _], _, _, e, _ => simp [mopD] at e
    | [.lst _ _, _], _, _, e, _ => simp [mopD] at e
    | [.obj _ _ _ _, _], _, _, e, _ => simp [mopD] at e
    | [.hole _, _], _, _, e, _ => simp [mopD] at e
    | [.dic, _], _, _, e, _ => simp [mopD] at e
    | [.any, _], _, _, e, _ => simp [mopD] at e
    | _ :: _ :: _ :: _, _, _, e, _ => simp [mopD] at e
end
section
variable {X : Cx} {io : List Nat} {W : WX} {st : Stmt} {er : Env → Option (List D × Env)} {ea : Env → Option (D × Env)}
noncomputable def mutE (p : Pl) (op : MOp) (er : Env → Option (List D × Env)) : Env → Option Flow := fun ρ => (getP ρ p).bind fun x => (lstO x).bind fun ds => (er (ρ.set p.base none)).bind fun q => (mopD op ds q.1).bind fun ds' => (putP ρ p (.lst .own ds')).map fun z => .nx (q.2.set p.base (some z))
theorem getP_base {ρ : Env} : ∀ {p : Pl} {x : D}, getP ρ p = some x → ∃ d, getS ρ p.base = some d
  | .nm i, x, h => ⟨x, h⟩
  | .sub p ix, x, h => by
    obtain ⟨y, e, _⟩ := bnd h
    exact getP_base (p := p) e
theorem mut_core {p : Pl} {op : MOp} (ho : mopOk op = true) (lr : Ln er) {D : Ends} {σ : L2.St} {H : Hp} (h : tX X.K io W (mutE p op er) D σ H) :
    tPl X.K p σ H fun x H1 => tyV X.K "list" x H1 ∧ tIA X.K er σ H1 fun xs H2 => rM op x xs H2 fun _ H3 => D.nx σ H3 := by
  obtain ⟨Gf, N, ts, ρ, hl, hs, fl, e, q⟩ := h
  obtain ⟨y, e1, e⟩ := bnd e
  obtain ⟨ds, e2, e⟩ := bnd e
  obtain ⟨⟨args, ρ2⟩, e3, e⟩ := bnd e
  obtain ⟨ds', e4, e⟩ := bnd e
  obtain ⟨z, e5, rfl⟩ := mpd e
  have ey := lstO_some e2
  subst ey
  have l2 : ρ2.length = ρ.length := (lr _ _ e3).trans len_set
  obtain ⟨d0, e0⟩ := getP_base e1
  refine ⟨Gf, N, ts, ρ, hl, hs, _, e1, fun v u zs ev h1 bk => ?_⟩
  obtain ⟨a, vs, ea', ca, la'⟩ := h1.contV rfl
  subst ea'
  refine ⟨.inl ⟨rfl, vs, ca.1⟩, Gf, N, tmp (.ref a) (.lst .own ds) :: (zs ++ ts), ρ.set p.base none, by rw [len_set]; exact hl, by simpa [List.append_assoc] using h1, _, e3, fun ws H2 hw h2 => ?_⟩
  have h3 : SR X.K Gf N H2 (tmp (.ref a) (.lst .own ds) :: (tmps ws args ++ (zs ++ (ts ++ σ.zip ρ2)))) := by
    have := SR.toFront (rs' := tmps ws args) (rs := (zs ++ ts) ++ σ.zip ρ2) (r := tmp (.ref a) (.lst .own ds)) (by simpa [List.append_assoc] using h2)
    simpa [List.append_assoc] using this
  refine snd_M ho h3 hw e4 fun w H3 h4 => ?_
  have h5 := bk Gf N H3 (ts ++ σ.zip ρ2) _ z e5 h4
  have h6 := SR.put (ts := ts) (σ := σ) (i := p.base) h5 (by rw [l2]; exact getS_lt e0) ev
  exact q σ _ .refl (by rw [len_set]; show σ.length = ρ2.length; rw [l2]; exact hl) h6
theorem pxs_mutP {p : Pl} {op : MOp} (ho : mopOk op = true) (lr : Ln er) (h : PS X st (tDrop (tBM X.K "list" (rM op) (tPl X.K p) (tIA X.K er)))) : PXS X io W st (mutE p op er) :=
  ps_imp h fun D σ H q => mut_core ho lr q
theorem pxs_mutP0 {p : Pl} {op : MOp} (ho : mopOk op = true) (h : PS X st (tDrop (tBM0 X.K "list" (rM op) (tPl X.K p)))) : PXS X io W st (mutE p op fun ρ => some ([], ρ)) :=
  ps_imp h fun D σ H q => by
    have := mut_core ho (fun ρ p e => by cases e; rfl) q
    obtain ⟨Gf, N, ts, ρ, hl, hs, y, e, f⟩ := this
    refine ⟨Gf, N, ts, ρ, hl, hs, y, e, fun v u zs ev h1 bk => ?_⟩
    obtain ⟨t, Gf', N', ts', ρ', hl', hs', p', e', f'⟩ := f v u zs ev h1 bk
    cases e'
    exact ⟨t, f' [] _ rfl hs'⟩
def setPE (p : Pl) (ix : Ix) (ea : Env → Option (D × Env)) : Env → Option Flow := fun ρ => (ea ρ).bind fun q => (getP q.2 p).bind fun x => (ixD q.2 ix).bind fun n => (setID x (.int n) q.1).bind fun x' => (putP q.2 p x').map fun z => .nx (q.2.set p.base (some z))
theorem pxs_setP {p : Pl} {ix : Ix} (la : Ln ea) (h : PS X st (tAsg (tI X.K ea) (gSub (tPl X.K p) (tIx X.K ix) rSetL))) : PXS X io W st (setPE p ix ea) := ps_imp h fun D σ H ⟨Gf, N, ts, ρ, hl, hs, fl, e, q⟩ => by
  obtain ⟨⟨d, ρ1⟩, e1, e⟩ := bnd e
  obtain ⟨x, e2, e⟩ := bnd e
  obtain ⟨n, e3, e⟩ := bnd e
  obtain ⟨x', e4, e⟩ := bnd e
  obtain ⟨z, e5, rfl⟩ := mpd e
  obtain ⟨xs, k, j, rfl, ek, ej, rfl⟩ := setID_some e4
  cases ek
  have l1 := la _ _ e1
  simp only at l1 e2 e3 e5
  obtain ⟨d0, e0⟩ := getP_base e2
  refine ⟨Gf, N, ts, ρ, hl, hs, _, e1, fun w H1 h1 => ?_⟩
  simp only at h1
  refine ⟨Gf, N, tmp w d :: ts, ρ1, hl.trans l1.symm, h1, _, e2, fun v u zs ev h2 bk => ?_⟩
  refine ⟨Gf, N, tmp w d :: ts, ρ1, hl.trans l1.symm, h1, n, e3, ?_⟩
  obtain ⟨a, vs, ea', ca, la'⟩ := h2.contV rfl
  subst ea'
  have h3 : SR X.K Gf N H1 (tmp (.ref a) (.lst .own xs) :: tmp w d :: (zs ++ (ts ++ σ.zip (ρ1.set p.base none)))) := by
    have := SR.toFront (rs' := tmp (.ref a) (.lst .own xs) :: zs) (rs := ts ++ σ.zip (ρ1.set p.base none)) (r := tmp w d) (by simpa using h2)
    exact SR.swap2 (by simpa using this)
  obtain ⟨vs', ev', lv', f⟩ := h3.setAt
  refine ⟨a, vs', n, j, rfl, rfl, ev', by rw [lv']; exact ej, ?_⟩
  have h4 := f j (ixN_lt ej)
  have h5 := bk Gf N _ (ts ++ σ.zip (ρ1.set p.base none)) _ z e5 h4
  have h6 := SR.put (ts := ts) (σ := σ) (i := p.base) h5 (by rw [len_set]; exact getS_lt e0) ev
  rw [List.set_set] at h6
  exact q σ _ .refl (by rw [len_set, l1]; exact hl) h6
end
section
variable {X : Cx} {io : List Nat} {W : WX} {st : Stmt} {ex : Env → Option Flow}
def borS (is : List Nat) (ex : Env → Option Flow) : Env → Option Flow := fun ρ => (ex (viewD ρ)).bind fun fl => match fl with
  | .nx _ => some (.nx (wipeD ρ is))
  | .rt d _ => if closedD d = true then some (.rt d (wipeD ρ is)) else none
  | _ => none
def ioB (n : Nat) (is : List Nat) : List Nat := (List.range n).filter fun i => !(is.contains i)
theorem pxs_bor {is : List Nat} (hd : ∀ i ∈ is, i ∉ io) (h : PXS X (ioB X.N.length is) W st ex) : PXS X io W st (borS is ex) := ⟨fun pins s σ H Dn I q0 => by
  refine h.run pins s σ H Dn I ?_
  have hN : σ.length = X.N.length := I.len
  obtain ⟨Gf, N, ts, ρ, hl, hs, fl, e, q⟩ := q0
  obtain ⟨fl0, e1, e⟩ := bnd e
  have mem : ∀ i, i < σ.length → i ∉ is → i ∈ ioB X.N.length is := fun i hi hn => by
    unfold ioB
    rw [List.mem_filter]
    exact ⟨List.mem_range.mpr (by omega), by simpa using hn⟩
  have core : ∀ (σ' : L2.St) (H' : Hp) (v : V) (d : D) (rs' : List Root), Agree (ioB X.N.length is) σ σ' → SR X.K H N H' (tmp v d :: rs') → closedD d = true → Agree io σ σ' ∧ σ'.length = (wipeD ρ is).length ∧ SR X.K Gf N H' (tmp v d :: (ts ++ σ'.zip (wipeD ρ is))) := by
    intro σ' H' v d rs' ag h1 hc
    refine ⟨⟨ag.1, fun i hi => ?_⟩, by rw [wipeD_len, ag.1]; exact hl, ?_⟩
    · by_cases hlt : i < σ.length
      · exact ag.2 i (mem i hlt fun z => hd i z hi)
      · rw [List.getElem?_eq_none (by rw [ag.1]; omega), List.getElem?_eq_none (by omega)]
    · have h2 := hs.unview h1 hc
      have h3 := SR.wipes (ts := tmp v d :: ts) hl h2 is
      refine SR.slots (ts := tmp v d :: ts) h3 ag.1 fun i => ?_
      by_cases hi : i ∈ is
      · by_cases hlt : i < ρ.length
        · exact .inl (wipeD_none hi hlt)
        · exact .inr (by rw [List.getElem?_eq_none (by rw [ag.1]; omega), List.getElem?_eq_none (by omega)])
      · by_cases hlt : i < σ.length
        · exact .inr (ag.2 i (mem i hlt hi))
        · exact .inr (by rw [List.getElem?_eq_none (by rw [ag.1]; omega), List.getElem?_eq_none (by omega)])
  refine ⟨H, N, [], viewD ρ, by rw [view_len]; exact hl, hs.view, fl0, e1, ?_⟩
  cases fl0 with
  | nx ρ' =>
    simp only at e
    cases e
    intro σ' H' ag _ h1
    obtain ⟨a1, a2, a3⟩ := core σ' H' .non .non _ ag (SR.flat h1 .non) rfl
    exact q σ' H' a1 a2 a3.drop
  | rt d ρ' =>
    simp only at e
    split at e
    · rename_i hc
      cases e
      intro v σ' H' ag _ h1
      obtain ⟨a1, a2, a3⟩ := core σ' H' v d _ ag h1 hc
      exact q v σ' H' a1 a2 a3
    · cases e
  | bk ρ' => cases e
  | ct ρ' => cases e
  | ex x ρ' => cases e⟩
end
end FL

/-! P3: comprehensions with two fors. -/
namespace FL
open PySem PySem.Spec PyProof.Rows L2 StX
section
variable {K : PySem.W.Frag} {Gf : Hp} {N : List Addr}
/-- what a comprehension's loop wants, from the evaluator -/
theorem comp_core {t : Tg} {ct : Env → Option (Bool × Env)} {ee : Env → Option (D × Env)} (lc : Ln ct) (le : Ln ee) {σ : L2.St} {items acc0 : List D} {J : L2.It} {P : Nat → List Root → Prop} {cs0 ts : List Root} {Dl : Addr} {H1 : Hp} {ρw : Env} {fin : List D × Env} {Qe : Hp → Prop}
    (wk : WalksG K J P items) (hp0 : P 0 cs0) (lw : ρw.length = σ.length) (nw : ∀ j ∈ t.slots, j < ρw.length → ρw[j]? = some none) (hn : SR K Gf N H1 (tmp (.ref Dl) (.lst .own acc0) :: ((cs0 ++ ts) ++ (wipe σ t.slots).zip ρw))) (e2 : compL (bindT t) ct ee t.slots items ρw acc0 = some fin)
    (q : ∀ cs H', SR K Gf N H' (tmp (.ref Dl) (.lst .own fin.1) :: ((cs ++ ts) ++ (wipe σ t.slots).zip fin.2)) → fin.2.length = σ.length → (∀ j ∈ t.slots, j < fin.2.length → fin.2[j]? = some none) → Qe H') :
    ∃ W : Nat → Nat → Hp → Prop, (∃ m, W 0 m H1) ∧ ∀ i m H, W i m H → (J.stop i H ∧ Qe H) ∨ (J.go i H ∧ ∃ Nx : Hp → Prop, (∀ H', Nx H' → ∃ m', m' < m ∧ W (i + 1) m' H') ∧ ∀ x H', J.yld i H x H' → gT K t x (wipe σ t.slots) H' fun σ2 H2 => wipe σ2 t.slots = wipe σ t.slots ∧ tIT K ct σ2 H2 fun b H3 =>
      if b = true then tI K ee σ2 H3 fun y H4 => ∃ acc, H4 Dl = some (.lst acc) ∧ acc.length < sizeLine ∧ Nx (upd H4 Dl (.lst (acc ++ [y]))) else Nx H3) := by
  refine ⟨fun i m H' => m = items.length - i ∧ i ≤ items.length ∧ ∃ acc ρi cs, P i cs ∧ ρi.length = σ.length ∧ (∀ j ∈ t.slots, j < ρi.length → ρi[j]? = some none) ∧ SR K Gf N H' (tmp (.ref Dl) (.lst .own acc) :: ((cs ++ ts) ++ (wipe σ t.slots).zip ρi)) ∧ compL (bindT t) ct ee t.slots (items.drop i) ρi acc = some fin,
    ⟨items.length, by simp, Nat.zero_le _, acc0, ρw, cs0, hp0, lw, nw, hn, by simpa using e2⟩, ?_⟩
  rintro i m H' ⟨rfl, hi, acc, ρi, cs, hp, lr, nn, hS, hC⟩
  have hS' : SR K Gf N H' (cs ++ ((tmp (.ref Dl) (.lst .own acc) :: ts) ++ (wipe σ t.slots).zip ρi)) := by
    rw [List.append_assoc] at hS
    exact SR.fromFront (r := tmp (.ref Dl) (.lst .own acc)) hS
  obtain ⟨wg, ws⟩ := wk i cs hp hS'
  by_cases hlt : i < items.length
  · refine .inr ?_
    have ed : items[i]? = some items[i] := List.getElem?_eq_getElem hlt
    rw [List.drop_eq_getElem_cons hlt] at hC
    simp only [compL] at hC
    obtain ⟨ρ1, e3, hC⟩ := bnd hC
    obtain ⟨⟨b, ρ2⟩, e4, hC⟩ := bnd hC
    obtain ⟨go, yl⟩ := wg _ ed
    refine ⟨go, fun H2 => ∃ acc ρi cs, P (i + 1) cs ∧ ρi.length = σ.length ∧ (∀ j ∈ t.slots, j < ρi.length → ρi[j]? = some none) ∧ SR K Gf N H2 (tmp (.ref Dl) (.lst .own acc) :: ((cs ++ ts) ++ (wipe σ t.slots).zip ρi)) ∧ compL (bindT t) ct ee t.slots (items.drop (i + 1)) ρi acc = some fin,
      fun H2 h2 => ⟨items.length - (i + 1), by omega, rfl, by omega, h2⟩, fun x H2 y => ?_⟩
    obtain ⟨cs', hp', h3⟩ := yl x H2 y
    have h3' : SR K Gf N H2 (tmp x items[i] :: ((cs' ++ (tmp (.ref Dl) (.lst .own acc) :: ts)) ++ (wipe σ t.slots).zip ρi)) := by rw [List.append_assoc]; exact h3
    refine tg_ok t (by rw [wipe_length]; exact lr.symm) h3' e3 fun σ2 H3 sm l1 h4 => ⟨?_, ?_⟩
    · rw [wipe_eq sm, wipe_eq Same.wipe]
    · have ls2 : σ2.length = ρ1.length := by rw [sm.1, wipe_length, l1, lr]
      refine ⟨Gf, N, _, ρ1, ls2, h4, (b, ρ2), e4, fun H4 h5 => ?_⟩
      have l2 : ρ2.length = ρ1.length := lc _ _ e4
      cases b with
      | true =>
        refine iteT ?_
        obtain ⟨⟨yd, ρ3⟩, e5, hC⟩ := bnd hC
        split at hC
        · rename_i hsz
          refine ⟨Gf, N, _, ρ2, ls2.trans l2.symm, h5, _, e5, fun u H5 h6 => ?_⟩
          have l3 : ρ3.length = ρ2.length := le _ _ e5
          have h7 : SR K Gf N H5 ((tmp u yd :: (cs' ++ (tmp (.ref Dl) (.lst .own acc) :: ts))) ++ σ2.zip (wipeD ρ3 t.slots)) := SR.wipes (by rw [ls2, l3, l2]) h6 t.slots
          have h8 : SR K Gf N H5 ((tmp u yd :: (cs' ++ (tmp (.ref Dl) (.lst .own acc) :: ts))) ++ (wipe σ t.slots).zip (wipeD ρ3 t.slots)) :=
            h7.slots sm.1.symm fun j => wiped_slots sm (by rw [ls2, l3, l2]) j
          have h9 : SR K Gf N H5 (tmp (.ref Dl) (.lst .own acc) :: tmp u yd :: ((cs' ++ ts) ++ (wipe σ t.slots).zip (wipeD ρ3 t.slots))) := by
            refine h8.perm ?_
            show (tmp u yd :: ((cs' ++ (tmp (.ref Dl) (.lst .own acc) :: ts)) ++ _)).Perm _
            refine (List.Perm.cons _ ?_).trans (.swap _ _ _)
            rw [List.append_assoc, List.append_assoc]
            exact List.perm_middle
          obtain ⟨vs, ev, lv, h10⟩ := h9.push
          refine ⟨vs, ev, by rw [lv, sizeLine_eq]; exact hsz, acc ++ [yd], _, cs', hp', by rw [wipeD_len, l3, l2, l1, lr], fun j hj hlt => wipeD_none hj (by rw [wipeD_len] at hlt; exact hlt), h10, hC⟩
        · cases hC
      | false =>
        refine iteF ?_
        have h7 := SR.wipes (by rw [ls2, l2]) h5 t.slots
        have h8 := h7.slots sm.1.symm fun j => wiped_slots sm (by rw [ls2, l2]) j
        refine ⟨acc, _, cs', hp', by rw [wipeD_len, l2, l1, lr], fun j hj hlt => wipeD_none hj (by rw [wipeD_len] at hlt; exact hlt), ?_, hC⟩
        rw [List.append_assoc] at h8
        rw [List.append_assoc]
        exact SR.toFront (r := tmp (.ref Dl) (.lst .own acc)) h8
  · have ei : i = items.length := by omega
    refine .inl ⟨ws (show items.length ≤ i by omega), ?_⟩
    rw [List.drop_of_length_le (by omega)] at hC
    simp only [compL] at hC
    cases hC
    exact q _ _ hS lr nn
/-! ### two fors -/
def compE2 (t1 t2 : Tg) (i1 i2 : Env → Option (List D × Env)) (ct : Env → Option (Bool × Env)) (ee : Env → Option (D × Env)) : Env → Option (D × Env) := fun ρ => (i1 ρ).bind fun p => (comp2L t1 t2 i2 ct ee p.1 (wipeD p.2 (t1.slots ++ t2.slots)) []).map fun q => (.lst .own q.1, q.2)
theorem comp2L_len {t1 t2 : Tg} {i2 : Env → Option (List D × Env)} {ct : Env → Option (Bool × Env)} {ee : Env → Option (D × Env)} (li : Ln i2) (lc : Ln ct) (le : Ln ee) : ∀ {ds : List D} {ρ : Env} {acc : List D} {p : List D × Env}, comp2L t1 t2 i2 ct ee ds ρ acc = some p → p.2.length = ρ.length
  | [], ρ, acc, p, h => by simp only [comp2L] at h; cases h; rfl
  | d :: ds, ρ, acc, p, h => by
    simp only [comp2L] at h
    obtain ⟨ρ1, e1, h⟩ := bnd h
    obtain ⟨q, e2, h⟩ := bnd h
    obtain ⟨r, e3, h⟩ := bnd h
    rw [comp2L_len li lc le h, wipeD_len, compL_len lc le e3, wipeD_len, li _ _ e2, bindT_len e1]
theorem compE2_ln {t1 t2 : Tg} {i1 i2 : Env → Option (List D × Env)} {ct : Env → Option (Bool × Env)} {ee : Env → Option (D × Env)} (l1 : Ln i1) (li : Ln i2) (lc : Ln ct) (le : Ln ee) : Ln (compE2 t1 t2 i1 i2 ct ee) := fun ρ p e => by
  obtain ⟨q, e1, e⟩ := bnd e
  obtain ⟨r, e2, rfl⟩ := mpd e
  have := comp2L_len li lc le e2
  rw [wipeD_len, l1 _ _ e1] at this
  exact this
theorem tI_comp2 {t1 t2 : Tg} {i1 i2 : Env → Option (List D × Env)} {ct : Env → Option (Bool × Env)} {ee : Env → Option (D × Env)} (l1 : Ln i1) (li : Ln i2) (lc : Ln ct) (le : Ln ee) {σ : L2.St} {H : Hp} {Q : VK} (h : tI K (compE2 t1 t2 i1 i2 ct ee) σ H Q) :
    tLc2 (tIt K i1) (gT K t1) (tIT K fun ρ => some (true, ρ)) (tIt K i2) (gT K t2) (tIT K ct) (tI K ee) (t1.slots ++ t2.slots) t2.slots σ H Q := by
  obtain ⟨Gf, N, ts, ρ, hl, hs, p, e, q⟩ := h
  obtain ⟨⟨items, ρ0⟩, e1, e⟩ := bnd e
  obtain ⟨fin, e2, rfl⟩ := mpd e
  refine ⟨Gf, N, ts, ρ, hl, hs, _, e1, fun J P cs0 H1 wk hp0 h1 Dl hD => ?_⟩
  generalize hvs : t1.slots ++ t2.slots = vs at *
  have sub1 : ∀ j ∈ t1.slots, j ∈ vs := fun j hj => by rw [← hvs]; exact List.mem_append_left _ hj
  have sub2 : ∀ j ∈ t2.slots, j ∈ vs := fun j hj => by rw [← hvs]; exact List.mem_append_right _ hj
  have l0 : ρ0.length = σ.length := (l1 _ _ e1).trans hl.symm
  have hcs : SR K Gf N H1 ((cs0 ++ ts) ++ σ.zip ρ0) := by rw [List.append_assoc]; exact h1
  have hw : SR K Gf N H1 ((cs0 ++ ts) ++ (wipe σ vs).zip (wipeD ρ0 vs)) :=
    (hcs.wipes l0.symm vs).slots (wipe_length _ _) fun i => by
      rcases wiped_slots (σ := σ) (σ2 := σ) (ρ := ρ0) (vs := vs) Same.wipe.symm l0.symm i with z | z
      · exact .inl z
      · exact .inr z
  have hn := SR.newL (vs := []) (ds := []) (p := Dl) hw rfl hD
  refine ⟨fun i m H' => m = items.length - i ∧ i ≤ items.length ∧ ∃ acc ρi cs, P i cs ∧ ρi.length = σ.length ∧ (∀ j ∈ vs, j < ρi.length → ρi[j]? = some none) ∧ SR K Gf N H' (tmp (.ref Dl) (.lst .own acc) :: ((cs ++ ts) ++ (wipe σ vs).zip ρi)) ∧ comp2L t1 t2 i2 ct ee (items.drop i) ρi acc = some fin,
    ⟨items.length, by simp, Nat.zero_le _, [], _, cs0, hp0, by rw [wipeD_len]; exact l0, fun j hj hlt => wipeD_none hj (by rw [wipeD_len] at hlt; exact hlt), hn, by simpa using e2⟩, ?_⟩
  rintro i m H' ⟨rfl, hi, acc, ρi, cs, hp, lr, nn, hS, hC⟩
  have hS' : SR K Gf N H' (cs ++ ((tmp (.ref Dl) (.lst .own acc) :: ts) ++ (wipe σ vs).zip ρi)) := by
    rw [List.append_assoc] at hS
    exact SR.fromFront (r := tmp (.ref Dl) (.lst .own acc)) hS
  obtain ⟨wg, ws⟩ := wk i cs hp hS'
  by_cases hlt : i < items.length
  · refine .inr ?_
    have ed : items[i]? = some items[i] := List.getElem?_eq_getElem hlt
    rw [List.drop_eq_getElem_cons hlt] at hC
    simp only [comp2L] at hC
    obtain ⟨ρ1, e3, hC⟩ := bnd hC
    obtain ⟨⟨items2, ρ2⟩, e4, hC⟩ := bnd hC
    obtain ⟨⟨acc2, ρ3⟩, e5, hC⟩ := bnd hC
    rw [hvs] at hC
    obtain ⟨go, yl⟩ := wg _ ed
    refine ⟨go, fun H2 => ∃ acc ρi cs, P (i + 1) cs ∧ ρi.length = σ.length ∧ (∀ j ∈ vs, j < ρi.length → ρi[j]? = some none) ∧ SR K Gf N H2 (tmp (.ref Dl) (.lst .own acc) :: ((cs ++ ts) ++ (wipe σ vs).zip ρi)) ∧ comp2L t1 t2 i2 ct ee (items.drop (i + 1)) ρi acc = some fin,
      fun H2 h2 => ⟨items.length - (i + 1), by omega, rfl, by omega, h2⟩, fun x H2 y => ?_⟩
    obtain ⟨cs', hp', h3⟩ := yl x H2 y
    have h3' : SR K Gf N H2 (tmp x items[i] :: ((cs' ++ (tmp (.ref Dl) (.lst .own acc) :: ts)) ++ (wipe σ vs).zip ρi)) := by rw [List.append_assoc]; exact h3
    refine tg_ok t1 (by rw [wipe_length]; exact lr.symm) h3' e3 fun σ2 H3 sm l1' h4 => ⟨?_, ?_⟩
    · rw [wipe_eq (sm.mono sub1), wipe_eq Same.wipe]
    · have ls2 : σ2.length = ρ1.length := by rw [sm.1, wipe_length, l1', lr]
      refine ⟨Gf, N, _, ρ1, ls2, h4, (true, ρ1), rfl, fun H4 h5 => iteT ?_⟩
      have l2 : ρ2.length = ρ1.length := li _ _ e4
      refine ⟨Gf, N, cs' ++ (tmp (.ref Dl) (.lst .own acc) :: ts), ρ1, ls2, h5, _, e4, fun J1 P1 cs1 H5 wk1 hp1 h6 => ?_⟩
      simp only at wk1 h6
      have h7 : SR K Gf N H5 ((cs1 ++ (cs' ++ (tmp (.ref Dl) (.lst .own acc) :: ts))) ++ σ2.zip ρ2) := by rw [List.append_assoc]; exact h6
      have h8 : SR K Gf N H5 ((cs1 ++ (cs' ++ (tmp (.ref Dl) (.lst .own acc) :: ts))) ++ (wipe σ2 t2.slots).zip (wipeD ρ2 t2.slots)) :=
        (h7.wipes (by rw [ls2, l2]) t2.slots).slots (wipe_length _ _) fun i => by
          rcases wiped_slots (σ := σ2) (σ2 := σ2) (ρ := ρ2) (vs := t2.slots) Same.wipe.symm (by rw [ls2, l2]) i with z | z
          · exact .inl z
          · exact .inr z
      have h9 : SR K Gf N H5 (tmp (.ref Dl) (.lst .own acc) :: ((cs1 ++ (cs' ++ ts)) ++ (wipe σ2 t2.slots).zip (wipeD ρ2 t2.slots))) := by
        refine h8.perm ?_
        have := List.perm_middle (l₁ := cs1 ++ cs') (l₂ := ts ++ (wipe σ2 t2.slots).zip (wipeD ρ2 t2.slots)) (a := tmp (.ref Dl) (.lst .own acc))
        simpa [List.append_assoc] using this
      refine comp_core (σ := σ2) lc le wk1 hp1 (by rw [wipeD_len, l2, ls2]) (fun j hj hlt => wipeD_none hj (by rw [wipeD_len] at hlt; exact hlt)) h9 e5 fun cs2 H6 h10 l3 n3 => ?_
      simp only at h10 l3 n3
      have h11 : SR K Gf N H6 ((tmp (.ref Dl) (.lst .own acc2) :: (cs' ++ ts)) ++ (wipe σ2 t2.slots).zip ρ3) := by
        have p1 : (tmp (.ref Dl) (.lst .own acc2) :: ((cs2 ++ (cs' ++ ts)) ++ (wipe σ2 t2.slots).zip ρ3)).Perm (cs2 ++ ((tmp (.ref Dl) (.lst .own acc2) :: (cs' ++ ts)) ++ (wipe σ2 t2.slots).zip ρ3)) := by
          have := (List.perm_middle (l₁ := cs2) (l₂ := (cs' ++ ts) ++ (wipe σ2 t2.slots).zip ρ3) (a := tmp (.ref Dl) (.lst .own acc2))).symm
          simpa [List.append_assoc] using this
        exact (h10.perm p1).dropL
      have h12 := SR.wipes (by rw [wipe_length, l3]) h11 vs
      have h13 : SR K Gf N H6 ((tmp (.ref Dl) (.lst .own acc2) :: (cs' ++ ts)) ++ (wipe σ vs).zip (wipeD ρ3 vs)) := h12.slots (by rw [wipe_length, wipe_length, sm.1, wipe_length]) fun j => by
        by_cases hj : j ∈ vs
        · by_cases hjl : j < ρ3.length
          · exact .inl (wipeD_none hj hjl)
          · refine .inr ?_
            rw [List.getElem?_eq_none (by rw [← sm.1]; omega), List.getElem?_eq_none (by rw [wipe_length]; omega)]
        · refine .inr ?_
          rw [wipe_out fun z => hj (sub2 j z)]
          exact (sm.2 j fun z => hj (sub1 j z)).symm
      exact ⟨acc2, _, cs', hp', by rw [wipeD_len, l3, sm.1, wipe_length], fun j hj hlt => wipeD_none hj (by rw [wipeD_len] at hlt; exact hlt), h13, hC⟩
  · have ei : i = items.length := by omega
    refine .inl ⟨ws (show items.length ≤ i by omega), ?_⟩
    rw [List.drop_of_length_le (by omega)] at hC
    simp only [comp2L] at hC
    cases hC
    refine q _ _ ?_
    have h3 : SR K Gf N H' ((tmp (.ref Dl) (.lst .own acc) :: (cs ++ ts)) ++ σ.zip ρi) := SR.slots (σ := wipe σ vs) hS (wipe_length _ _).symm fun j => by
      by_cases hj : j ∈ vs
      · by_cases hjl : j < ρi.length
        · exact .inl (nn j hj hjl)
        · refine .inr ?_
          rw [List.getElem?_eq_none (by omega), List.getElem?_eq_none (by rw [wipe_length]; omega)]
      · exact .inr (wipe_out hj).symm
    have h4 : SR K Gf N H' (cs ++ (tmp (.ref Dl) (.lst .own acc) :: (ts ++ σ.zip ρi))) := by
      refine h3.perm ?_
      show (tmp (.ref Dl) (.lst .own acc) :: ((cs ++ ts) ++ σ.zip ρi)).Perm _
      rw [List.append_assoc]
      exact List.perm_middle.symm
    exact h4.dropL
end
end FL

/-! P4: a name for an item that is changed (the container keeps a hole meanwhile), a loop that changes its items. -/
namespace FL
open PySem PySem.Spec PyProof.Rows L2
section
theorem wp_execs_app (M : Model) (Γ : PySem.Ctx) (env : PySem.Env) (l2 : List Stmt) (Q : PySem.Flow → Pos → Shared → Prop) (E : Value → Pos → Shared → Prop) : ∀ (l1 : List Stmt) (p : Pos) (s : Shared),
    Sem.wp M Γ (execs l1 env) (fun f p' s' => match f with | .next => Sem.wp M Γ (execs l2 env) Q E p' s' | f => Q f p' s') E p s → Sem.wp M Γ (execs (l1 ++ l2) env) Q E p s
  | [], p, s, h => h
  | st :: l1, p, s, h => by
    rw [execs_cons, Sem.wp_bind'] at h
    rw [List.cons_append, execs_cons, Sem.wp_bind']
    refine Sem.wp_mono M Γ _ (fun f p' s' h' => ?_) (fun _ _ _ h' => h') _ _ h
    cases f <;> first | exact wp_execs_app M Γ env l2 Q E l1 p' s' h' | exact h'
theorem pss_app {X : Cx} {l1 l2 : List Stmt} {t u : TS} (h1 : PSs X l1 t) (h2 : PSs X l2 u) : PSs X (l1 ++ l2) (tSeq t u) := ⟨fun pins s σ H D I h Γ p hΓ => by
  refine wp_execs_app _ _ _ _ _ _ l1 p s (Sem.wp_mono _ _ _ (fun f p' s' q => ?_) (fun _ _ _ h' => h') _ _ (h1.run pins s σ H { D with nx := u D } I h Γ p hΓ))
  cases f with
  | next =>
    obtain ⟨σ', H', I', q⟩ := q
    exact h2.run pins s' σ' H' D I' q Γ p' hΓ
  | ret v => exact q
  | brk => exact q
  | cont => exact q⟩
end
section
variable {K : PySem.W.Frag} {Gf H : Hp} {N : List Addr} {rs ts : List Root}
theorem SR.isHole {u v : V} (h : SR K Gf N H (tmp v (.hole u) :: rs)) : v = u := by
  obtain ⟨n, F, nd, r, g⟩ := h
  cases r with
  | cons y r => cases y; rfl
theorem SR.hole {u : V} (h : SR K Gf N H rs) : SR K Gf N H (tmp u (.hole u) :: rs) := by
  obtain ⟨n, F, nd, r, g⟩ := h
  exact ⟨n, F, nd, .cons (F1 := []) (.hole u) r, g⟩
theorem SR.backN : ∀ (ns : List Int) {d d' y : D} {u v : V} {rs : List Root}, getN ns d = some (.hole u) → putN ns d y = some d' → SR K Gf N H (tmp u y :: tmp v d :: rs) → SR K Gf N H (tmp v d' :: rs)
  | [], d, d', y, u, v, rs, e1, e2, h => by
    simp only [getN, putN] at e1 e2
    cases e1; cases e2
    have := SR.isHole (v := v) h.swap2
    subst this
    exact h.dropMid
  | n :: ns, d, d', y, u, v, rs, e1, e2, h => by
    simp only [getN, putN] at e1 e2
    obtain ⟨x, f1, e1⟩ := bnd e1
    obtain ⟨x0, f2, e2⟩ := bnd e2
    rw [f1] at f2; cases f2
    obtain ⟨x', f3, e2⟩ := bnd e2
    obtain ⟨j, ho, ej, ex⟩ := get1_some f1
    obtain ⟨j', _, ej', rfl⟩ := put1_some e2
    rw [ej] at ej'; cases ej'
    obtain ⟨a, vs, ev, c, l, f⟩ := SR.out (v := v) h.swap2 ho
    obtain ⟨u1, eu1, h1⟩ := f j x ex
    have h2 : SR K Gf N H (tmp u y :: tmp u1 x :: tmp v (setSeq d ((itemsD d).set j (.hole u1))) :: rs) := by
      refine h1.perm ?_
      refine (List.Perm.cons _ (.swap _ _ _)).trans (.swap _ _ _)
    have h3 := SR.backN ns e1 f3 h2
    have hj : j < (itemsD d).length := (List.getElem?_eq_some_iff.mp ex).1
    have h4 := SR.back (j := j) h3 (setSeq_own ho) (by rw [items_setSeq ho]; simp [hj])
    rw [items_setSeq ho, setSeq_setSeq, List.set_set] at h4
    exact h4
theorem giveE_some {i b : Nat} {ns : List Int} {v : V} {ρ ρ' : Env} (h : giveE i b ns v ρ = some ρ') : ∃ y d z, getS ρ i = some y ∧ getS ρ b = some d ∧ getN ns d = some (.hole v) ∧ putN ns d y = some z ∧ ρ' = (ρ.set i none).set b (some z) := by
  unfold giveE at h
  obtain ⟨y, e1, h⟩ := bnd h
  obtain ⟨d, e2, h⟩ := bnd h
  split at h
  · obtain ⟨z, e3, rfl⟩ := mpd h
    exact ⟨y, d, z, e1, e2, by assumption, e3, rfl⟩
  · cases h
theorem getS_set_ne {ρ : Env} {i b : Nat} {o : Option D} (h : i ≠ b) : getS (ρ.set i o) b = getS ρ b := by
  unfold getS
  rw [List.getElem?_set_ne h]
theorem giveE_len {i b : Nat} {ns : List Int} {v : V} {ρ ρ' : Env} (h : giveE i b ns v ρ = some ρ') : ρ'.length = ρ.length := by
  obtain ⟨y, d, z, _, _, _, _, rfl⟩ := giveE_some h
  rw [len_set, len_set]
theorem giveE_SR {i b : Nat} {ns : List Int} {v : V} {σ : L2.St} {ρ ρ' : Env} (hib : i ≠ b) (h : giveE i b ns v ρ = some ρ') (hl : σ.length = ρ.length) (ev : σ[i]? = some (some v)) (hs : SR K Gf N H (ts ++ σ.zip ρ)) : SR K Gf N H (ts ++ σ.zip ρ') := by
  obtain ⟨y, d, z, e1, e2, e3, e4, rfl⟩ := giveE_some h
  have h1 := hs.take e1 ev
  obtain ⟨w, ew⟩ := hs.slotV hl e2
  have h2 := SR.take (ts := tmp v y :: ts) h1 ((getS_set_ne hib).trans e2) ew
  have h3 := SR.backN ns e3 e4 (SR.swap2 h2)
  have h4 := SR.put (ts := ts) (σ := σ) (i := b) h3 (by rw [len_set, len_set]; exact getS_lt e2) ew
  rw [List.set_set] at h4
  exact h4
theorem SR.clrSlot {σ : L2.St} {ρ : Env} {b : Nat} (l : σ.length = ρ.length) (h : SR K Gf N H (ts ++ σ.zip ρ)) : SR K Gf N H (ts ++ σ.zip (ρ.set b none)) := by
  cases e : getS ρ b with
  | some d =>
    obtain ⟨w, ew⟩ := h.slotV l e
    exact SR.drop (h.take e ew)
  | none =>
    have : ρ.set b none = ρ := by
      apply List.ext_getElem?
      intro j
      by_cases q : b = j
      · subst q
        by_cases hb : b < ρ.length
        · have hx0 : ρ[b]? = some ρ[b] := List.getElem?_eq_getElem hb
          rw [List.getElem?_set_self hb, hx0]
          cases hx : ρ[b] with
          | none => rfl
          | some d =>
            unfold getS at e
            rw [hx0, hx] at e
            cases e
        · rw [List.getElem?_eq_none (by rw [List.length_set]; omega), List.getElem?_eq_none (by omega)]
      · rw [List.getElem?_set_ne q]
    rw [this]; exact h
theorem agree_of {i b : Nat} {io : List Nat} {σ σ1 σ' : L2.St} (a : Agree io σ σ1) (h : Agree (i :: b :: io) σ1 σ') : Agree io σ σ' := a.trans ⟨h.1, fun j hj => h.2 j (List.mem_cons_of_mem _ (List.mem_cons_of_mem _ hj))⟩
theorem give_ok {i b : Nat} {ns : List Int} {v : V} {io : List Nat} {W : WX} {σ σ1 : L2.St} {Dn : Ends} {fl fl' : Flow} (hib : i ≠ b) (e : giveF i b ns v fl = some fl') (ev : σ1[i]? = some (some v)) (ag : Agree io σ σ1) (q : FlowOk K Gf N ts io W σ Dn fl') : FlowOk K Gf N ts (i :: b :: io) W σ1 Dn fl := by
  have eva : ∀ {σ' : L2.St}, Agree (i :: b :: io) σ1 σ' → σ'[i]? = some (some v) := fun a => (a.2 i (by simp)).trans ev
  cases fl with
  | nx ρ =>
    obtain ⟨ρ', e1, rfl⟩ := mpd e
    exact fun σ' H' a l h => q σ' H' (agree_of ag a) (by rw [giveE_len e1]; exact l) (giveE_SR hib e1 l (eva a) h)
  | bk ρ =>
    obtain ⟨ρ', e1, rfl⟩ := mpd e
    exact fun σ' H' a l h => q σ' H' (agree_of ag a) (by rw [giveE_len e1]; exact l) (giveE_SR hib e1 l (eva a) h)
  | ct ρ =>
    obtain ⟨ρ', e1, rfl⟩ := mpd e
    exact fun σ' H' a l h => q σ' H' (agree_of ag a) (by rw [giveE_len e1]; exact l) (giveE_SR hib e1 l (eva a) h)
  | rt d ρ =>
    have e' : (match getS ρ i with | some _ => (giveE i b ns v ρ).map (Flow.rt d) | none => some (Flow.rt d (ρ.set b none))) = some fl' := e
    cases hg : getS ρ i with
    | some y =>
      rw [hg] at e'
      obtain ⟨ρ', e1, rfl⟩ := mpd (show (giveE i b ns v ρ).map (Flow.rt d) = some fl' from e')
      exact fun w σ' H' a l h => q w σ' H' (agree_of ag a) (by rw [giveE_len e1]; exact l) (giveE_SR (ts := tmp w d :: ts) hib e1 l (eva a) h)
    | none =>
      rw [hg] at e'
      have e2 : some (Flow.rt d (ρ.set b none)) = some fl' := e'
      cases e2
      exact fun w σ' H' a l h => q w σ' H' (agree_of ag a) (by rw [len_set]; exact l) (SR.clrSlot (ts := tmp w d :: ts) l h)
  | ex x ρ =>
    obtain ⟨ρ', e1, rfl⟩ := mpd e
    exact fun cls d σ' H' a l h => q cls d σ' H' (agree_of ag a) (by rw [giveE_len e1]; exact l) (h.imp fun ts' h1 => by
      have h2 : SR K Gf N H' ((ts' ++ ts) ++ σ'.zip ρ) := by rw [List.append_assoc]; exact h1
      have h3 := giveE_SR hib e1 l (eva a) h2
      rw [List.append_assoc] at h3
      exact h3)
end
/-! ### a name for an item -/
section
variable {X : Cx} {io : List Nat} {W : WX} {st : Stmt} {body rest : List Stmt} {xb xr : Env → Option Flow}
noncomputable def aliE (i : Nat) (p : Pl) (xb xr : Env → Option Flow) : Env → Option Flow := fun ρ => (getP ρ p).bind fun y => (ixsD ρ p).bind fun ns => (allV fun v => ((putP ρ p (.hole v)).bind fun z => putS (ρ.set p.base (some z)) i y).bind fun ρ1 => (xb ρ1).bind (giveF i p.base ns v)).bind fun fl => match fl with
    | .nx ρ1 => xr ρ1
    | fl => some fl
theorem pxss_ali {i : Nat} {p : Pl} (hib : i ≠ p.base) (hio : i ∉ io) (h : PS X st (tAsg (tPl X.K p) (gName i))) (hb : PXSs X (i :: p.base :: io) W body xb) (hr : PXSs X io W rest xr) : PXSs X io W (st :: (body ++ rest)) (aliE i p xb xr) :=
  pss_imp (pss_cons h (pss_app hb hr)) fun D σ H ⟨Gf, N, ts, ρ, hl, hs, fl, e, q⟩ => by
    obtain ⟨y, e1, e⟩ := bnd e
    obtain ⟨ns, e2, e⟩ := bnd e
    obtain ⟨f1, e3, e⟩ := bnd e
    obtain ⟨d0, e0⟩ := getP_base e1
    refine ⟨Gf, N, ts, ρ, hl, hs, y, e1, fun v u zs ev h1 bk => ?_⟩
    have e4 := allV_some e3 u
    obtain ⟨ρ1, e5, e4⟩ := bnd e4
    obtain ⟨z, e6, e5⟩ := bnd e5
    obtain ⟨fb, e7, e8⟩ := bnd e4
    obtain ⟨hi, rfl⟩ := putS_some e5
    have h2 : SR X.K Gf N H (tmp u (.hole u) :: (zs ++ (tmp u y :: (ts ++ σ.zip (ρ.set p.base none))))) := SR.hole (SR.fromFront h1)
    have h3 := bk Gf N H _ _ z e6 h2
    have h4 : SR X.K Gf N H ((tmp u y :: ts) ++ σ.zip (ρ.set p.base (some z))) := by
      have := SR.put (ts := tmp u y :: ts) (σ := σ) (i := p.base) h3 (by rw [len_set]; exact getS_lt e0) ev
      rw [List.set_set] at this
      exact this
    have h5 : SR X.K Gf N H (ts ++ (σ.set i (some u)).zip ((ρ.set p.base (some z)).set i (some y))) := SR.store h4 (by rw [len_set]; exact hl) hi
    have ag : Agree io σ (σ.set i (some u)) := (Same.set (is := [i]) (by simp)).agree fun j hj => by simp at hj; subst hj; exact hio
    have hlt : i < σ.length := by rw [len_set] at hi; rw [hl]; exact hi
    refine ⟨Gf, N, ts, _, by rw [List.length_set, len_set, len_set]; exact hl, h5, fb, e7, ?_⟩
    refine give_ok (σ := σ) hib e8 (by simp [hlt]) ag ?_
    cases f1 with
    | nx ρ2 => exact fun σ' H' a l h => ⟨Gf, N, ts, ρ2, l, h, fl, e, q.agree a⟩
    | bk ρ2 => cases e; exact q
    | ct ρ2 => cases e; exact q
    | rt d ρ2 => cases e; exact q
    | ex x ρ2 => cases e; exact q
/-! ### a loop that changes its items -/
theorem lenO_some {ρ : Env} {b n : Nat} (h : lenO ρ b = some n) : ∃ ds, getS ρ b = some (.lst .own ds) ∧ ds.length = n := by
  unfold lenO at h
  obtain ⟨d, e1, h⟩ := bnd h
  obtain ⟨ds, e2, rfl⟩ := mpd h
  have := lstO_some e2
  subst this
  exact ⟨ds, e1, rfl⟩
theorem sqL_eq {K : PySem.W.Frag} {H : Hp} {a : Addr} {vs : List V} (h : H a = some (.lst vs)) : SqL K H a vs := .inl (.inl h)
theorem pxs_loopO {t b : Nat} (htb : t ≠ b) (hio : t ∉ io) (hb : PXSs X (t :: b :: io) W body xb) (h : PS X st (tFor (iList X.K (tVar b)) (gName t) (tX X.K (t :: b :: io) W xb))) :
    PXS X io W st (fun ρ => (lenO ρ b).bind fun n => loopOL xb t b n n 0 ρ) := ps_imp h fun D σ H ⟨Gf, N, ts, ρ, hl, hs, fl, e, q⟩ => by
  obtain ⟨n, e1, e⟩ := bnd e
  obtain ⟨ds0, e0, hn0⟩ := lenO_some e1
  obtain ⟨w, ew⟩ := hs.slotV hl e0
  obtain ⟨a, vs0, rfl, c0, l0⟩ := (hs.take e0 ew).contV rfl
  refine ⟨.ref a, ew, a, rfl, ⟨vs0, c0.1⟩, ?_⟩
  refine ⟨fun j m σ' H' => m = n - j ∧ j ≤ n ∧ ∃ ρi, Agree io σ σ' ∧ σ'.length = ρi.length ∧ σ'[b]? = some (some (.ref a)) ∧ SR X.K Gf N H' (ts ++ σ'.zip ρi) ∧ loopOL xb t b n (n - j) j ρi = some fl,
    ⟨n, rfl, Nat.zero_le _, ρ, .refl, hl, ew, hs, e⟩, ?_⟩
  rintro j m σ' H' ⟨rfl, hle, ρi, ag, lr, eb, hS, hC⟩
  have hlen : lenO ρi b = some n := by
    cases k : n - j with
    | zero => rw [k] at hC; unfold loopOL at hC; split at hC; assumption; cases hC
    | succ k' => rw [k] at hC; unfold loopOL at hC; split at hC; assumption; cases hC
  obtain ⟨ds, ed, hn⟩ := lenO_some hlen
  have hT := hS.take ed eb
  obtain ⟨a', vs, ea, c, l⟩ := SR.contV hT rfl
  cases ea
  have l : vs.length = ds.length := l
  by_cases hlt : j < n
  · refine .inr ?_
    obtain ⟨k, hk⟩ : ∃ k, n - j = k + 1 := ⟨n - j - 1, by omega⟩
    rw [hk] at hC
    unfold loopOL at hC
    rw [if_pos hlen] at hC
    obtain ⟨f1, e3, hC⟩ := bnd hC
    unfold stepO at e3
    rw [ed] at e3
    simp only [Option.bind_some, lstO] at e3
    obtain ⟨y, ey, e3⟩ := bnd e3
    obtain ⟨a2, vs2, ea2, c2, l2, f⟩ := SR.out hT rfl
    cases ea2
    obtain ⟨u, eu, h1⟩ := f j y ey
    have hk' : n - (j + 1) = k := by omega
    refine ⟨⟨vs2, u, c2.1, eu⟩, fun σ2 H2 => ∃ ρi, Agree io σ σ2 ∧ σ2.length = ρi.length ∧ σ2[b]? = some (some (.ref a)) ∧ SR X.K Gf N H2 (ts ++ σ2.zip ρi) ∧ loopOL xb t b n k (j + 1) ρi = some fl,
      fun σ2 H2 h2 => ⟨n - (j + 1), by omega, rfl, by omega, by rw [hk']; exact h2⟩, fun x H2 y2 => ?_⟩
    obtain ⟨hH, y2⟩ := y2
    subst hH
    have ex := y2 vs2 c2.1
    rw [eu] at ex; cases ex
    have e4 := allV_some e3 u
    obtain ⟨ρ1, e5, e4⟩ := bnd e4
    obtain ⟨fb, e7, e8⟩ := bnd e4
    obtain ⟨hi, rfl⟩ := putS_some e5
    have h3 : SR X.K Gf N H2 ((tmp u y :: ts) ++ σ'.zip (ρi.set b (some (.lst .own (ds.set j (.hole u)))))) := by
      have := SR.put (ts := tmp u y :: ts) (σ := σ') (i := b) (SR.swap2 h1) (by rw [len_set]; exact getS_lt ed) eb
      rw [List.set_set] at this
      exact this
    have h5 : SR X.K Gf N H2 (ts ++ (σ'.set t (some u)).zip ((ρi.set b (some (.lst .own (ds.set j (.hole u))))).set t (some y))) := SR.store h3 (by rw [len_set]; exact lr) hi
    have ag2 : Agree io σ (σ'.set t (some u)) := ag.trans ((Same.set (is := [t]) (by simp)).agree fun j hj => by simp at hj; subst hj; exact hio)
    have hlt2 : t < σ'.length := by rw [len_set] at hi; rw [lr]; exact hi
    have eb2 : (σ'.set t (some u))[b]? = some (some (.ref a)) := by rw [List.getElem?_set_ne htb]; exact eb
    show tX X.K (t :: b :: io) W xb _ (σ'.set t (some u)) H2
    refine ⟨Gf, N, ts, _, by rw [List.length_set, len_set, len_set]; exact lr, h5, fb, e7, ?_⟩
    have key : ∀ {σ3 : L2.St}, Agree (b :: io) (σ'.set t (some u)) σ3 → σ3[b]? = some (some (.ref a)) := fun z => (z.2 b (by simp)).trans eb2
    have agb : ∀ {σ3 : L2.St}, Agree (b :: io) (σ'.set t (some u)) σ3 → Agree io σ σ3 := fun z => ag2.trans ⟨z.1, fun i hi => z.2 i (List.mem_cons_of_mem _ hi)⟩
    have main : FlowOk X.K Gf N ts (t :: b :: (b :: io)) W (σ'.set t (some u)) _ fb := give_ok (σ := σ'.set t (some u)) (io := b :: io) htb e8 (by simp [hlt2]) .refl (?_ : FlowOk X.K Gf N ts (b :: io) W (σ'.set t (some u)) { D with nx := fun σ2 H2 => ∃ ρi, Agree io σ σ2 ∧ σ2.length = ρi.length ∧ σ2[b]? = some (some (.ref a)) ∧ SR X.K Gf N H2 (ts ++ σ2.zip ρi) ∧ loopOL xb t b n k (j + 1) ρi = some fl, ct := fun σ2 H2 => ∃ ρi, Agree io σ σ2 ∧ σ2.length = ρi.length ∧ σ2[b]? = some (some (.ref a)) ∧ SR X.K Gf N H2 (ts ++ σ2.zip ρi) ∧ loopOL xb t b n k (j + 1) ρi = some fl, bk := D.nx } f1)
    · have wk : ∀ {σ1 σ2 : L2.St}, Agree (t :: b :: io) σ1 σ2 → Agree (t :: b :: (b :: io)) σ1 σ2 := fun z => ⟨z.1, fun i hi => z.2 i (by simp only [List.mem_cons] at hi ⊢; rcases hi with h1 | h1 | h1 | h1; exact .inl h1; exact .inr (.inl h1); exact .inr (.inl h1); exact .inr (.inr h1))⟩
      cases fb with
      | nx ρ => exact fun σ' H' a l h => main σ' H' (wk a) l h
      | bk ρ => exact fun σ' H' a l h => main σ' H' (wk a) l h
      | ct ρ => exact fun σ' H' a l h => main σ' H' (wk a) l h
      | rt d ρ => exact fun v σ' H' a l h => main v σ' H' (wk a) l h
      | ex x ρ => exact fun cls d σ' H' a l h => main cls d σ' H' (wk a) l h
    · cases f1 with
      | nx ρ2 => exact fun σ3 H4 a l h5 => ⟨ρ2, agb a, l, key a, h5, hC⟩
      | ct ρ2 => exact fun σ3 H4 a l h5 => ⟨ρ2, agb a, l, key a, h5, hC⟩
      | bk ρ2 => cases hC; exact fun σ3 H4 a l h5 => q σ3 H4 (agb a) l h5
      | rt d ρ2 => cases hC; exact fun v σ3 H4 a l h5 => q v σ3 H4 (agb a) l h5
      | ex x ρ2 => cases hC; exact fun cls d σ3 H4 a l h5 => q cls d σ3 H4 (agb a) l h5
  · have ej : n - j = 0 := by omega
    rw [ej] at hC
    unfold loopOL at hC
    rw [if_pos hlen] at hC
    cases hC
    exact .inl ⟨⟨vs, c.1, by omega⟩, q σ' H' ag lr hS⟩
end
end FL

/-! P7: a loop over an own list that moves its items out, one by one. -/
namespace FL
open PySem PySem.Spec PyProof.Rows L2
section
variable {X : Cx} {io : List Nat} {W : WX} {st : Stmt} {body : List Stmt} {xb : Env → Option Flow}
def ownO (ρ : Env) (b : Nat) : Option (List D) := (getS ρ b).bind lstO
theorem ownO_some {ρ : Env} {b : Nat} {ds : List D} (h : ownO ρ b = some ds) : getS ρ b = some (.lst .own ds) := by
  unfold ownO at h
  obtain ⟨d, e1, h⟩ := bnd h
  have := lstO_some h
  subst this
  exact e1
theorem pxs_loopM {t b : Nat} (hio : t ∉ io) (hb : PXSs X io W body xb) (h : PS X st (tFor (iList X.K (tVar b)) (gName t) (tX X.K io W xb))) :
    PXS X io W st (fun ρ => (ownO ρ b).bind fun ds => forL (bindT (.name t)) xb ds (ρ.set b none)) := ps_imp h fun D σ H ⟨Gf, N, ts, ρ, hl, hs, fl, e, q⟩ => by
  obtain ⟨ds0, e1, e⟩ := bnd e
  have e0 := ownO_some e1
  obtain ⟨w, ew⟩ := hs.slotV hl e0
  have hT0 := hs.take e0 ew
  obtain ⟨a, vs0, rfl, c0, l0⟩ := hT0.contV rfl
  refine ⟨.ref a, ew, a, rfl, ⟨vs0, c0.1⟩, ?_⟩
  refine ⟨fun j m σ' H' => m = ds0.length - j ∧ j ≤ ds0.length ∧ ∃ ρi es, es.length = ds0.length ∧ es.drop j = ds0.drop j ∧ Agree io σ σ' ∧ σ'.length = ρi.length ∧ SR X.K Gf N H' (tmp (.ref a) (.lst .own es) :: (ts ++ σ'.zip ρi)) ∧ forL (bindT (.name t)) xb (ds0.drop j) ρi = some fl,
    ⟨ds0.length, rfl, Nat.zero_le _, ρ.set b none, ds0, rfl, rfl, .refl, by rw [len_set]; exact hl, hT0, e⟩, ?_⟩
  rintro j m σ' H' ⟨rfl, hle, ρi, es, hes, hdr, ag, lr, hS, hC⟩
  obtain ⟨a', vs, ea, c, l⟩ := SR.contV hS rfl
  cases ea
  have l : vs.length = es.length := l
  by_cases hlt : j < ds0.length
  · refine .inr ?_
    have hje : j < es.length := by omega
    have ed : es[j]? = some ds0[j] := by
      have := congrArg (fun l => l[0]?) hdr
      simpa [List.getElem?_eq_getElem hlt] using this
    rw [List.drop_eq_getElem_cons hlt] at hC
    simp only [forL] at hC
    obtain ⟨ρ1, e3, hC⟩ := bnd hC
    obtain ⟨f1, e4, hC⟩ := bnd hC
    obtain ⟨a2, vs2, ea2, c2, l2, f⟩ := SR.out hS rfl
    cases ea2
    obtain ⟨u, eu, h1⟩ := f j _ ed
    refine ⟨⟨vs2, u, c2.1, eu⟩, fun σ2 H2 => ∃ ρi es, es.length = ds0.length ∧ es.drop (j + 1) = ds0.drop (j + 1) ∧ Agree io σ σ2 ∧ σ2.length = ρi.length ∧ SR X.K Gf N H2 (tmp (.ref a) (.lst .own es) :: (ts ++ σ2.zip ρi)) ∧ forL (bindT (.name t)) xb (ds0.drop (j + 1)) ρi = some fl,
      fun σ2 H2 h2 => ⟨ds0.length - (j + 1), by omega, rfl, by omega, h2⟩, fun x H2 y2 => ?_⟩
    obtain ⟨hH, y2⟩ := y2
    subst hH
    have ex := y2 vs2 c2.1
    rw [eu] at ex; cases ex
    obtain ⟨hi, rfl⟩ := putS_some (show putS ρi t ds0[j] = some ρ1 from e3)
    have h3 : SR X.K Gf N H2 (tmp u ds0[j] :: ((tmp (.ref a) (.lst .own (es.set j (.hole u))) :: ts) ++ σ'.zip ρi)) := h1
    have h5 := SR.store h3 lr hi
    have ag2 : Agree io σ (σ'.set t (some u)) := ag.trans ((Same.set (is := [t]) (by simp)).agree fun j hj => by simp at hj; subst hj; exact hio)
    show tX X.K io W xb _ (σ'.set t (some u)) H2
    refine ⟨Gf, N, tmp (.ref a) (.lst .own (es.set j (.hole u))) :: ts, ρi.set t (some ds0[j]), by rw [List.length_set, len_set]; exact lr, h5, f1, e4, ?_⟩
    have hes2 : (es.set j (.hole u)).length = ds0.length := by rw [List.length_set]; exact hes
    have hdr2 : (es.set j (.hole u)).drop (j + 1) = ds0.drop (j + 1) := by
      rw [List.drop_set_of_lt (by omega)]
      have := congrArg (List.drop 1) hdr
      simpa [List.drop_drop] using this
    cases f1 with
    | nx ρ2 => exact fun σ3 H4 a l h6 => ⟨ρ2, _, hes2, hdr2, ag2.trans a, l, h6, hC⟩
    | ct ρ2 => exact fun σ3 H4 a l h6 => ⟨ρ2, _, hes2, hdr2, ag2.trans a, l, h6, hC⟩
    | bk ρ2 => cases hC; exact fun σ3 H4 a l h6 => q σ3 H4 (ag2.trans a) l (SR.drop h6)
    | rt d ρ2 => cases hC; exact fun v σ3 H4 a l h6 => q v σ3 H4 (ag2.trans a) l (SR.dropMid h6)
    | ex x ρ2 => cases hC; exact fun cls d σ3 H4 a l h6 => q cls d σ3 H4 (ag2.trans a) l (h6.imp fun ts' h1 => by
        exact SR.drop (h1.perm List.perm_middle))
  · have ej : ds0.length - j = 0 := by omega
    rw [List.drop_eq_nil_of_le (by omega)] at hC
    simp only [forL] at hC
    cases hC
    exact .inl ⟨⟨vs, c.1, by omega⟩, q σ' H' ag lr (SR.drop hS)⟩
theorem walks_mvs {K : PySem.W.Frag} {a : Addr} {ds0 : List D} : WalksG K (Itl K a) (fun j cs => ∃ es : List D, es.length = ds0.length ∧ es.drop j = ds0.drop j ∧ cs = [tmp (.ref a) (.lst .own es)]) ds0 := by
  rintro Gf N H rs j cs ⟨es, hes, hdr, rfl⟩ hS
  obtain ⟨a', vs, ea, c, l⟩ := SR.contV hS rfl
  cases ea
  have l : vs.length = es.length := l
  refine ⟨fun d ed0 => ?_, fun hle => ⟨vs, c.1, by omega⟩⟩
  have hlt : j < ds0.length := (List.getElem?_eq_some_iff.mp ed0).1
  have ed : es[j]? = some d := by
    have := congrArg (fun l => l[0]?) hdr
    rw [← ed0]
    simpa using this
  obtain ⟨a2, vs2, ea2, c2, l2, f⟩ := SR.out hS rfl
  cases ea2
  obtain ⟨u, eu, h1⟩ := f j _ ed
  refine ⟨⟨vs2, u, c2.1, eu⟩, fun x H2 y2 => ?_⟩
  obtain ⟨hH, y2⟩ := y2
  subst hH
  have ex := y2 vs2 c2.1
  rw [eu] at ex; cases ex
  refine ⟨[tmp (.ref a) (.lst .own (es.set j (.hole u)))], ⟨es.set j (.hole u), by rw [List.length_set]; exact hes, ?_, rfl⟩, h1⟩
  rw [List.drop_set_of_lt (by omega)]
  have := congrArg (List.drop 1) hdr
  simpa [List.drop_drop] using this
/-- an own list, its items moved out -/
theorem pxi_mvs {X : Cx} {i : Nat} {e tg : Expr} (h : PI X tg e (iList X.K (tVar i))) : PXI X tg e (fun ρ => (ownO ρ i).map fun ds => (ds, ρ.set i none)) := by
  refine ⟨pi_imp h fun σ H Q ⟨Gf, N, ts, ρ, hl, hs, p, e, q⟩ => ?_, fun ρ p e => ?_⟩
  · obtain ⟨ds0, e1, rfl⟩ := mpd e
    have e0 := ownO_some e1
    obtain ⟨w, ew⟩ := hs.slotV hl e0
    have hT0 := hs.take e0 ew
    obtain ⟨a, vs0, rfl, c0, l0⟩ := hT0.contV rfl
    exact ⟨.ref a, ew, a, rfl, ⟨vs0, c0.1⟩, q _ _ [tmp (.ref a) (.lst .own ds0)] _ walks_mvs ⟨ds0, rfl, rfl, rfl⟩ hT0⟩
  · obtain ⟨ds0, e1, rfl⟩ := mpd e
    exact len_set
end
end FL

/-! X3: how expressions and statements raise. -/
namespace FL
open PySem PySem.Spec PyProof.Rows L2 StX
abbrev LnX (ev : Env → Option (Exn × Env)) : Prop := ∀ ρ p, ev ρ = some p → p.2.length = ρ.length
def tIX (K : PySem.W.Frag) (W : WX) (ev : Env → Option (Exn × Env)) : TE := fun σ H _ => ∃ Gf N ts ρ, σ.length = ρ.length ∧ SR K Gf N H (ts ++ σ.zip ρ) ∧ ∃ p, ev ρ = some p ∧ ∀ cls d H', XSR K Gf N H' cls d p.1 (ts ++ σ.zip p.2) → W cls d σ H'
def tAX (K : PySem.W.Frag) (W : WX) (ev : Env → Option (Exn × Env)) : TA := fun σ H _ => ∃ Gf N ts ρ, σ.length = ρ.length ∧ SR K Gf N H (ts ++ σ.zip ρ) ∧ ∃ p, ev ρ = some p ∧ ∀ cls d H', XSR K Gf N H' cls d p.1 (ts ++ σ.zip p.2) → W cls d σ H'
structure PXX (X : Cx) (W : WX) (e : Expr) (ev : Env → Option (Exn × Env)) : Prop where
  pe : PE X e (tIX X.K W ev)
  ln : LnX ev
structure PXXs (X : Cx) (W : WX) (es : List Expr) (ev : Env → Option (Exn × Env)) : Prop where
  pa : PA X es (tAX X.K W ev)
  ln : LnX ev
theorem PXX.cg {X : Cx} {W : WX} {e : Expr} {ev ev' : Env → Option (Exn × Env)} (h : PXX X W e ev) (f : ∀ ρ, ev' ρ = ev ρ) : PXX X W e ev' := by
  have : ev' = ev := funext f
  rw [this]; exact h
theorem PXXs.cg {X : Cx} {W : WX} {e : List Expr} {ev ev' : Env → Option (Exn × Env)} (h : PXXs X W e ev) (f : ∀ ρ, ev' ρ = ev ρ) : PXXs X W e ev' := by
  have : ev' = ev := funext f
  rw [this]; exact h
theorem pa_any {X : Cx} {es : List Expr} {t' : TA} (f : ∀ σ H Q, t' σ H Q → ∃ t, PA X es t ∧ t σ H Q) : PA X es t' := ⟨fun pos pins s σ H Q I q => by
  obtain ⟨t, h, q'⟩ := f σ H Q q
  exact h.run pos pins s σ H Q I q'⟩
theorem ps_any {X : Cx} {st : Stmt} {t' : TS} (f : ∀ D σ H, t' D σ H → ∃ t, PS X st t ∧ t D σ H) : PS X st t' := ⟨fun pins s σ H D I q => by
  obtain ⟨t, h, q'⟩ := f D σ H q
  exact h.run pins s σ H D I q'⟩
section
variable {X : Cx} {W : WX} {e a : Expr} {es : List Expr} {pos : Pos}
theorem pxx_none : PXX X W e (fun _ => none) := ⟨⟨fun _ _ _ _ _ _ ⟨_, _, _, _, _, _, _, e, _⟩ => by cases e⟩, fun _ _ e => by cases e⟩
theorem pxxs_none : PXXs X W es (fun _ => none) := ⟨⟨fun _ _ _ _ _ _ _ ⟨_, _, _, _, _, _, _, e, _⟩ => by cases e⟩, fun _ _ e => by cases e⟩
/-! ### calls -/
def callX (ψ : List D → Option (Exn × List (Option D))) (as : As) (er : Env → Option (List (Option D) × Env)) : Env → Option (Exn × Env) := fun ρ => (er ρ).bind fun p => (takeA as p.1 p.2).bind fun q => (ψ q.1).bind fun r => (putA as r.2 q.2).map fun ρ' => (r.1, ρ')
theorem xsr_put {K : PySem.W.Frag} {Gf H : Hp} {N : List Addr} {cls : Value} {d : Option Addr} {x : Exn} {ts : List Root} {σ : L2.St} {as : As} {vs : List V} {os : List (Option D)} {ρ2 ρ3 : Env}
    (h : XSR K Gf N H cls d x (rootsA vs os ++ (ts ++ σ.zip ρ2))) (hl : σ.length = ρ2.length) (rf : RefOk σ as vs) (e : putA as os ρ2 = some ρ3) : XSR K Gf N H cls d x (ts ++ σ.zip ρ3) := h.imp fun ts' h1 => by
  have h2 : SR K Gf N H (rootsA vs os ++ ((ts' ++ ts) ++ σ.zip ρ2)) := by
    refine h1.perm ?_
    simp only [← List.append_assoc]
    exact (List.perm_append_comm.append_right _).append_right _
  have h3 := (put_ok h2 hl rf e).1
  rw [List.append_assoc] at h3
  exact h3
theorem callX_ln {ψ : List D → Option (Exn × List (Option D))} {as : As} {er : Env → Option (List (Option D) × Env)} (lr : Ln er) : LnX (callX ψ as er) := fun ρ p e => by
  obtain ⟨pr, e1, e⟩ := bnd e
  obtain ⟨⟨ds, ρ2⟩, e2, e⟩ := bnd e
  obtain ⟨r, e3, e⟩ := bnd e
  obtain ⟨ρ3, e4, rfl⟩ := mpd e
  show ρ3.length = _
  rw [putA_len e4]
  have := takeA_len e2
  rw [this]; exact lr _ _ e1
theorem pxx_call {φ : List D → Option (D × List (Option D))} {ψ : List D → Option (Exn × List (Option D))} {n : Nat} {as : As} {er : Env → Option (List (Option D) × Env)} (hn : ∀ ds r, ψ ds = some r → ds.length = n) (hr : PXG X es as er)
    (h : PE X e (tCallS (spOf X.K n φ ψ) (WE W) (tArg X.K as er))) : PXX X W e (callX ψ as er) := by
  refine ⟨pe_imp h fun σ H Q ⟨Gf, N, ts, ρ, hl, hs, p, e, q⟩ => ?_, callX_ln hr.ln⟩
  obtain ⟨pr, e1, e⟩ := bnd e
  obtain ⟨⟨ds, ρ2⟩, e2, e⟩ := bnd e
  obtain ⟨r, e3, e⟩ := bnd e
  obtain ⟨ρ3, e4, rfl⟩ := mpd e
  refine ⟨Gf, N, ts, ρ, hl, hs, pr, e1, fun vs H1 rf h1 => ?_⟩
  obtain ⟨h2, l, l2⟩ := take_ok h1 rf e2
  exact call_spX h2 l (by rw [l]; exact hn _ _ e3) e3 fun cls d H' h3 => q cls d H' (xsr_put h3 (by rw [l2, hr.ln _ _ e1]; exact hl) rf e4)
def methX (Ψ : Fx) (ms : List ((Str × Str) × Nat)) (m : Str) (o : A) (as : As) (ex : Env → Option (Option D × Env)) (er : Env → Option (List (Option D) × Env)) : Env → Option (Exn × Env) := fun ρ =>
  (ex ρ).bind fun x => (recvD o x.1 x.2).bind fun s => (methD ms m s).bind fun f => (er x.2).bind fun p => (takeA (.cons o as) (x.1 :: p.1) p.2).bind fun q => (Ψ f q.1).bind fun r => (putA (.cons o as) r.2 q.2).map fun ρ' => (r.1, ρ')
theorem pxx_meth {Φ : Fs} {Ψ : Fx} {ms : List ((Str × Str) × Nat)} {m : Str} {o : A} {as : As} {ex : Env → Option (Option D × Env)} {er : Env → Option (List (Option D) × Env)} {ar : Nat → Nat} (hn : ∀ f ds r, Ψ f ds = some r → ds.length = ar f)
    (ho : PX1 X a o ex) (hr : PXG X es as er)
    (h : ∀ c f, ((c, m), f) ∈ ms → PE X e (FX.tMethS' (He.ga X.K c) m (spOf X.K (ar f) (Φ f) (Ψ f)) (WE W) (fun σ H Q => ∃ Gf N ts ρ, σ.length = ρ.length ∧ SR X.K Gf N H (ts ++ σ.zip ρ) ∧ ∃ p, ex ρ = some p ∧ ∀ v H', (∀ i, o = .ref i → σ[i]? = some (some v)) → SR X.K Gf N H' ((some v, p.1) :: (ts ++ σ.zip p.2)) → Q v H') (tArg X.K as er))) :
    PXX X W e (methX Ψ ms m o as ex er) := by
  refine ⟨pe_any fun σ H Q ⟨Gf, N, ts, ρ, hl, hs, p, e, q⟩ => ?_, fun ρ p e => ?_⟩
  · obtain ⟨x, e1, e⟩ := bnd e
    obtain ⟨s, e2, e⟩ := bnd e
    obtain ⟨f, e3, e⟩ := bnd e
    obtain ⟨pr, e4, e⟩ := bnd e
    obtain ⟨⟨ds, ρ2⟩, e5, e⟩ := bnd e
    obtain ⟨r, e6, e⟩ := bnd e
    obtain ⟨ρ3, e7, rfl⟩ := mpd e
    obtain ⟨fl, c, ns, xs, rfl, hm, mem⟩ := methD_some e3
    refine ⟨_, h c f mem, Gf, N, ts, ρ, hl, hs, x, e1, fun v H1 rf h1 => ?_⟩
    obtain ⟨a, dx, vs, ev, ea⟩ := recv_facts h1 rf e2
    refine ⟨a, dx, _, ev, ea, lookup_zip_none hm, Gf, N, (some v, x.1) :: ts, x.2, by rw [ho.ln _ _ e1]; exact hl, h1, pr, e4, fun us H2 rf2 h2 => ?_⟩
    have rfc : RefOk σ (.cons o as) (v :: us) := by
      cases o with
      | val y => exact rf2
      | ref i => exact ⟨rf i rfl, rf2⟩
    have h2' : SR X.K Gf N H2 (rootsA (v :: us) (x.1 :: pr.1) ++ (ts ++ σ.zip pr.2)) := SR.toFront (r := (some v, x.1)) h2
    obtain ⟨h3, l, l2⟩ := take_ok h2' rfc e5
    exact call_spX h3 l (by rw [l]; exact hn _ _ _ e6) e6 fun cls d H' h4 => q cls d H' (xsr_put h4 (by rw [l2, hr.ln _ _ e4, ho.ln _ _ e1]; exact hl) rfc e7)
  · obtain ⟨x, e1, e⟩ := bnd e
    obtain ⟨s, e2, e⟩ := bnd e
    obtain ⟨f, e3, e⟩ := bnd e
    obtain ⟨pr, e4, e⟩ := bnd e
    obtain ⟨⟨ds, ρ2⟩, e5, e⟩ := bnd e
    obtain ⟨r, e6, e⟩ := bnd e
    obtain ⟨ρ3, e7, rfl⟩ := mpd e
    show ρ3.length = _
    rw [putA_len e7]
    have := takeA_len e5
    rw [this, hr.ln _ _ e4]; exact ho.ln _ _ e1
def makeX (ψ : List D → Option (Exn × List (Option D))) (c : Str) (as : As) (er : Env → Option (List (Option D) × Env)) : Env → Option (Exn × Env) := fun ρ => (er ρ).bind fun p => (takeA as p.1 p.2).bind fun q => (ψ (.obj .own c [] [] :: q.1)).bind fun r => match r with
    | (x, _ :: os) => (putA as os q.2).map fun ρ' => (x, ρ')
    | _ => none
theorem makeX_some {ψ : List D → Option (Exn × List (Option D))} {c : Str} {as : As} {er : Env → Option (List (Option D) × Env)} {ρ : Env} {p : Exn × Env} (h : makeX ψ c as er ρ = some p) :
    ∃ pr ds ρ2 o os, er ρ = some pr ∧ takeA as pr.1 pr.2 = some (ds, ρ2) ∧ ψ (.obj .own c [] [] :: ds) = some (p.1, o :: os) ∧ putA as os ρ2 = some p.2 := by
  obtain ⟨pr, e1, h⟩ := bnd h
  obtain ⟨⟨ds, ρ2⟩, e2, h⟩ := bnd h
  obtain ⟨r, e3, h⟩ := bnd h
  split at h
  · obtain ⟨ρ3, e4, rfl⟩ := mpd h
    exact ⟨pr, ds, ρ2, _, _, e1, e2, e3, e4⟩
  · cases h
theorem pxx_make {φ : List D → Option (D × List (Option D))} {ψ : List D → Option (Exn × List (Option D))} {n : Nat} {c : Str} {as : As} {er : Env → Option (List (Option D) × Env)} (hn : ∀ ds r, ψ ds = some r → ds.length = n) (hr : PXG X es as er)
    (h : PE X e (FX.tMakeS' (He.ga X.K c) (spOf X.K n φ ψ) (WE W) (tArg X.K as er))) : PXX X W e (makeX ψ c as er) := by
  refine ⟨pe_imp h fun σ H Q ⟨Gf, N, ts, ρ, hl, hs, p, e, q⟩ => ?_, fun ρ p e => ?_⟩
  · obtain ⟨pr, ds, ρ2, o, os, e1, e2, e3, e4⟩ := makeX_some e
    refine ⟨Gf, N, ts, ρ, hl, hs, pr, e1, fun vs H1 rf h1 x dx nx ndx ne => ?_⟩
    obtain ⟨h2, l, l2⟩ := take_ok h1 rf e2
    have nx' : (upd H1 dx (.own x)) x = none := by rw [upd_ne (fun z => ne z.symm)]; exact nx
    have h3 := (h2.newX (o := .own x) ndx).newO (c := c) (dx := dx) nx'
    refine call_spX (vs := .ref x :: vs) (ds := .obj .own c [] [] :: ds) h3 (by simp [l]) (by simp only [List.length_cons]; rw [l]; have := hn _ _ e3; simpa using this) e3 fun cls d H' h4 => q cls d H' (xsr_put (h4.imp fun ts' h5 => ?_) (by rw [l2, hr.ln _ _ e1]; exact hl) rf e4)
    have h6 : SR X.K Gf N H' (ts' ++ (some (V.ref x), o) :: (rootsA vs os ++ (ts ++ σ.zip ρ2))) := h5
    exact SR.drop (SR.toFront h6)
  · obtain ⟨pr, ds, ρ2, o, os, e1, e2, e3, e4⟩ := makeX_some e
    rw [putA_len e4]
    have := takeA_len e2
    rw [this]; exact hr.ln _ _ e1
/-! ### o[i] with an own __getitem__ -/
theorem bareO_some {α : Type} {r : α × List (Option D)} {d : α} (h : bareO r = some d) : r = (d, [none, none]) := by
  obtain ⟨y, os⟩ := r
  unfold bareO at h
  split at h
  · rename_i y' e
    cases h
    exact e
  · cases h
theorem gti_core {K : PySem.W.Frag} {Gf H : Hp} {N : List Addr} {rs : List Root} {x y : V} {o : Fl} {c : Str} {ns : List Str} {xs : List D} {e : D} (h : SR K Gf N H (tmp y e :: tmp x (.obj o c ns xs) :: rs)) : ∃ a dx fs, x = .ref a ∧ H a = some (.ins (He.ga K c) dx fs) := by
  obtain ⟨a, vs, ev, ⟨_, dx, ea⟩, _⟩ := SR.contV (v := x) h.swap2 rfl
  exact ⟨a, dx, _, ev, ea⟩
theorem px_gti {Φ : Fs} {Ψ : Fx} {ms : List ((Str × Str) × Nat)} {b : Expr} {ea eb : Env → Option (D × Env)} {ar : Nat → Nat} (hn : ∀ f ds r, Φ f ds = some r → ds.length = ar f) (ha : PX X a ea) (hb : PX X b eb)
    (h : ∀ c f, ((c, Str.ofString "__getitem__"), f) ∈ ms → PE X e (FX.tGti (He.ga X.K c) (spOf X.K (ar f) (Φ f) (Ψ f)) (fun _ _ _ _ => False) (tI X.K ea) (tI X.K eb))) :
    PX X e (fun ρ => (ea ρ).bind fun p => (eb p.2).bind fun q => (methD ms (Str.ofString "__getitem__") p.1).bind fun f => (Φ f [p.1, q.1]).bind fun r => (bareO r).map fun d => (d, q.2)) := by
  refine ⟨pe_any fun σ H Q ⟨Gf, N, ts, ρ, hl, hs, p, e, q⟩ => ?_, fun ρ p e => ?_⟩
  · obtain ⟨pa, e1, e⟩ := bnd e
    obtain ⟨pb, e2, e⟩ := bnd e
    obtain ⟨f, e3, e⟩ := bnd e
    obtain ⟨r, e4, e⟩ := bnd e
    obtain ⟨d, e5, rfl⟩ := mpd e
    have e5 := bareO_some e5
    subst e5
    obtain ⟨fl, c, ns, xs, ep, hm, mem⟩ := methD_some e3
    refine ⟨_, h c f mem, Gf, N, ts, ρ, hl, hs, pa, e1, fun x H1 h1 => ⟨Gf, N, tmp x pa.1 :: ts, pa.2, hl.trans (ha.ln _ _ e1).symm, h1, pb, e2, fun y H2 h2 => ?_⟩⟩
    have h3 : SR X.K Gf N H2 (tmp y pb.1 :: tmp x (.obj fl c ns xs) :: (ts ++ σ.zip pb.2)) := by rw [← ep]; exact h2
    obtain ⟨w, dx, fs, ev, ew⟩ := gti_core h3
    refine ⟨w, dx, fs, ev, ew, call_sp (ds := [pa.1, pb.1]) (rs := ts ++ σ.zip pb.2) h2.swap2 rfl (by have := hn _ _ _ e4; simpa using this) e4 fun v H' h4 => q v H' ?_⟩
    have h5 : SR X.K Gf N H' (tmp v d :: (some x, none) :: (some y, none) :: (ts ++ σ.zip pb.2)) := h4
    exact (h5.swap2.drop).swap2.drop
  · obtain ⟨pa, e1, e⟩ := bnd e
    obtain ⟨pb, e2, e⟩ := bnd e
    obtain ⟨f, e3, e⟩ := bnd e
    obtain ⟨r, e4, e⟩ := bnd e
    obtain ⟨d, e5, rfl⟩ := mpd e
    show pb.2.length = _
    rw [hb.ln _ _ e2]; exact ha.ln _ _ e1
theorem pxx_gti {Φ : Fs} {Ψ : Fx} {ms : List ((Str × Str) × Nat)} {b : Expr} {ea eb : Env → Option (D × Env)} {ar : Nat → Nat} (hn : ∀ f ds r, Ψ f ds = some r → ds.length = ar f) (ha : PX X a ea) (hb : PX X b eb)
    (h : ∀ c f, ((c, Str.ofString "__getitem__"), f) ∈ ms → PE X e (FX.tGti (He.ga X.K c) (spOf X.K (ar f) (Φ f) (Ψ f)) (WE W) (tI X.K ea) (tI X.K eb))) :
    PXX X W e (fun ρ => (ea ρ).bind fun p => (eb p.2).bind fun q => (methD ms (Str.ofString "__getitem__") p.1).bind fun f => (Ψ f [p.1, q.1]).bind fun r => (bareO r).map fun d => (d, q.2)) := by
  refine ⟨pe_any fun σ H Q ⟨Gf, N, ts, ρ, hl, hs, p, e, q⟩ => ?_, fun ρ p e => ?_⟩
  · obtain ⟨pa, e1, e⟩ := bnd e
    obtain ⟨pb, e2, e⟩ := bnd e
    obtain ⟨f, e3, e⟩ := bnd e
    obtain ⟨r, e4, e⟩ := bnd e
    obtain ⟨d, e5, rfl⟩ := mpd e
    have e5 := bareO_some e5
    subst e5
    obtain ⟨fl, c, ns, xs, ep, hm, mem⟩ := methD_some e3
    refine ⟨_, h c f mem, Gf, N, ts, ρ, hl, hs, pa, e1, fun x H1 h1 => ⟨Gf, N, tmp x pa.1 :: ts, pa.2, hl.trans (ha.ln _ _ e1).symm, h1, pb, e2, fun y H2 h2 => ?_⟩⟩
    have h3 : SR X.K Gf N H2 (tmp y pb.1 :: tmp x (.obj fl c ns xs) :: (ts ++ σ.zip pb.2)) := by rw [← ep]; exact h2
    obtain ⟨w, dx, fs, ev, ew⟩ := gti_core h3
    refine ⟨w, dx, fs, ev, ew, call_spX (ds := [pa.1, pb.1]) (rs := ts ++ σ.zip pb.2) h2.swap2 rfl (by have := hn _ _ _ e4; simpa using this) e4 fun cls d' H' h4 => q cls d' H' (h4.imp fun ts' h5 => ?_)⟩
    have h6 : SR X.K Gf N H' (ts' ++ (some x, none) :: ((some y, none) :: (ts ++ σ.zip pb.2))) := h5
    have h7 : SR X.K Gf N H' (ts' ++ (some y, none) :: (ts ++ σ.zip pb.2)) := SR.drop (SR.toFront h6)
    exact SR.drop (SR.toFront h7)
  · obtain ⟨pa, e1, e⟩ := bnd e
    obtain ⟨pb, e2, e⟩ := bnd e
    obtain ⟨f, e3, e⟩ := bnd e
    obtain ⟨r, e4, e⟩ := bnd e
    obtain ⟨d, e5, rfl⟩ := mpd e
    show pb.2.length = _
    rw [hb.ln _ _ e2]; exact ha.ln _ _ e1
/-! ### tuples -/
theorem pxx_tup {ev : Env → Option (Exn × Env)} {k : Nat} (h : PXXs X W es ev) : PXX X W (.Tuple es k pos) ev := ⟨pe_imp (pe_tup h.pa) fun σ H Q q => q, h.ln⟩
def consX (ea : Env → Option (D × Env)) (xa xr : Env → Option (Exn × Env)) : Env → Option (Exn × Env) := fun ρ => match ea ρ with
    | some p => xr p.2
    | none => xa ρ
theorem pxxs_cons {ea : Env → Option (D × Env)} {xa xr : Env → Option (Exn × Env)} (ha : PX X a ea) (hx : PXX X W a xa) (hr : PXXs X W es xr) (hs : starEach (a :: es) X.env = (false, eval a X.env) :: starEach es X.env) : PXXs X W (a :: es) (consX ea xa xr) := by
  refine ⟨pa_any fun σ H Q ⟨Gf, N, ts, ρ, hl, hS, p, e, q⟩ => ?_, fun ρ p e => ?_⟩
  · unfold consX at e
    split at e
    · rename_i pa e1
      refine ⟨_, pa_cons ha.pe hr.pa hs, Gf, N, ts, ρ, hl, hS, pa, e1, fun v H1 h1 => ⟨Gf, N, tmp v pa.1 :: ts, pa.2, hl.trans (ha.ln _ _ e1).symm, h1, p, e, fun cls d H' h2 => q cls d H' (h2.imp fun ts' h3 => ?_)⟩⟩
      have h4 : SR X.K Gf N H' (ts' ++ tmp v pa.1 :: (ts ++ σ.zip p.2)) := h3
      exact SR.drop (SR.toFront h4)
    · exact ⟨_, pa_cons hx.pe hr.pa hs, Gf, N, ts, ρ, hl, hS, p, e, q⟩
  · unfold consX at e
    split at e
    · rename_i pa e1
      rw [hr.ln _ _ e]; exact ha.ln _ _ e1
    · exact hx.ln _ _ e
/-! ### statements -/
variable {io : List Nat} {st : Stmt}
theorem pxs_may {xn : Env → Option Flow} {xe : Env → Option (Exn × Env)} (lx : LnX xe) (hn : PXS X io W st xn) (hx : PS X st (fun _ σ H => tIX X.K W xe σ H fun _ _ => False)) : PXS X io W st (fun ρ => orX (xn ρ) (xe ρ)) :=
  ps_any fun D σ H ⟨Gf, N, ts, ρ, hl, hs, fl, e, q⟩ => by
    have e : orX (xn ρ) (xe ρ) = some fl := e
    cases e1 : xn ρ with
    | some f =>
      rw [e1] at e
      cases e
      exact ⟨_, hn, Gf, N, ts, ρ, hl, hs, fl, e1, q⟩
    | none =>
      rw [e1] at e
      obtain ⟨p, e1, rfl⟩ := mpd (show (xe ρ).map (fun p => Flow.ex p.1 p.2) = some fl from e)
      exact ⟨_, hx, Gf, N, ts, ρ, hl, hs, p, e1, fun cls d H' h => q cls d σ H' .refl (hl.trans (lx _ _ e1).symm) h⟩
theorem pxs_rse0 {c : Str} (h : PS X st (fun _ σ H => W (.ref (He.ga X.K c)) none σ H)) : PXS X io W st (fun ρ => some (.ex ⟨c, none⟩ ρ)) := ps_imp h fun D σ H ⟨Gf, N, ts, ρ, hl, hs, fl, e, q⟩ => by
  cases e
  exact q _ _ σ H .refl hl ⟨rfl, rfl, hs⟩
theorem pxs_rse1 {c f : Str} {ea : Env → Option (D × Env)} (la : Ln ea) (h : PS X st (fun _ σ H => FX.tXm (He.ga X.K c) f (tI X.K ea) σ H fun cls d H' => W cls d σ H')) : PXS X io W st (fun ρ => (ea ρ).map fun p => .ex ⟨c, some (f, p.1)⟩ p.2) :=
  ps_imp h fun D σ H ⟨Gf, N, ts, ρ, hl, hs, fl, e, q⟩ => by
    obtain ⟨p, e1, rfl⟩ := mpd e
    exact ⟨Gf, N, ts, ρ, hl, hs, p, e1, fun v H1 h1 d hd => q _ _ σ _ .refl (hl.trans (la _ _ e1).symm) ⟨rfl, d, v, rfl, upd_same, h1.newX hd⟩⟩
end
end FL

/-! P5: methods of a named list whose arguments read it; two names set at once; list(range(n)); == by an own __eq__; isinstance of an own class. -/
namespace FL
open PySem PySem.Spec PyProof.Rows L2
section
variable {X : Cx} {io : List Nat} {W : WX} {st : Stmt} {er : Env → Option (List D × Env)} {ea eb : Env → Option (D × Env)}
noncomputable def mutNE (i : Nat) (op : MOp) (er : Env → Option (List D × Env)) : Env → Option Flow := fun ρ => (getS ρ i).bind fun x0 => if isLst x0 = true then (er ρ).bind fun q => (getS q.2 i).bind fun x => (lstO x).bind fun ds => (mopD op ds q.1).map fun ds' => .nx (q.2.set i (some (.lst .own ds'))) else none
theorem pxs_mutN {i : Nat} {op : MOp} (ho : mopOk op = true) (lr : Ln er) (h : PS X st (tDrop (tBM X.K "list" (rM op) (tVar i) (tIA X.K er)))) : PXS X io W st (mutNE i op er) := ps_imp h fun D σ H ⟨Gf, N, ts, ρ, hl, hs, fl, e, q⟩ => by
  obtain ⟨x0, e0, e⟩ := bnd e
  split at e
  · rename_i hlst
    obtain ⟨⟨args, ρ1⟩, e1, e⟩ := bnd e
    obtain ⟨x, e3, e⟩ := bnd e
    obtain ⟨ds, e4, e⟩ := bnd e
    obtain ⟨ds', e5, rfl⟩ := mpd e
    have ex := lstO_some e4
    subst ex
    have l1 : ρ1.length = ρ.length := lr _ _ e1
    obtain ⟨w, ew⟩ := hs.slotV hl e0
    have ty : tyV X.K "list" w H := by
      cases x0 <;> simp only [isLst, reduceCtorEq] at hlst
      obtain ⟨a, vs, ea', ca, la'⟩ := (hs.take e0 ew).contV rfl
      subst ea'
      exact .inl ⟨rfl, vs, ca.1⟩
    refine ⟨w, ew, ty, Gf, N, ts, ρ, hl, hs, _, e1, fun ws H1 hw h1 => ?_⟩
    simp only at hw h1 e3
    have h2 : SR X.K Gf N H1 ((tmps ws args ++ ts) ++ σ.zip ρ1) := by rw [List.append_assoc]; exact h1
    have h3 := SR.take h2 e3 ew
    obtain ⟨a, vs, ea', ca, la'⟩ := h3.contV rfl
    subst ea'
    rw [List.append_assoc] at h3
    refine snd_M ho h3 hw e5 fun w' H3 h4 => ?_
    have h6 := SR.put (ts := ts) (σ := σ) (i := i) h4 (by rw [len_set]; exact getS_lt e3) ew
    rw [List.set_set] at h6
    exact q σ _ .refl (by rw [len_set, l1]; exact hl) h6
  · cases e
theorem pxs_par {i j : Nat} (hij : i ≠ j) (hi : i ∉ io) (hj : j ∉ io) (lr : Ln er) (h : PS X st (tPar i j (tIA X.K er))) : PXS X io W st (fun ρ => (er ρ).bind fun p => (putAll p.2 [i, j] p.1).map .nx) := ps_imp h fun D σ H ⟨Gf, N, ts, ρ, hl, hs, fl, e, q⟩ => by
  obtain ⟨⟨ds, ρ1⟩, e1, e⟩ := bnd e
  obtain ⟨ρ2, e2, rfl⟩ := mpd e
  have l1 : ρ1.length = ρ.length := lr _ _ e1
  refine ⟨Gf, N, ts, ρ, hl, hs, _, e1, fun vs H1 hw h1 => ?_⟩
  simp only at hw h1 e2
  match ds, vs, hw, h1, e2 with
  | [d1, d2], [v, w], _, h1, e2 =>
    simp only [putAll] at e2
    obtain ⟨ρ3, e3, e2⟩ := bnd e2
    obtain ⟨ρ4, e4, e2⟩ := bnd e2
    cases e2
    obtain ⟨hi1, rfl⟩ := putS_some e3
    obtain ⟨hj1, rfl⟩ := putS_some e4
    refine ⟨v, w, rfl, ?_⟩
    have h2 : SR X.K Gf N H1 (tmp v d1 :: ((tmp w d2 :: ts) ++ σ.zip ρ1)) := h1
    have h3 := h2.store (hl.trans l1.symm) hi1
    have h4 : SR X.K Gf N H1 (tmp w d2 :: (ts ++ (σ.set i (some v)).zip (ρ1.set i (some d1)))) := h3
    have h5 := h4.store (by rw [List.length_set, len_set, l1]; exact hl) hj1
    refine q _ _ ?_ (by rw [List.length_set, List.length_set, len_set, len_set, l1]; exact hl) h5
    refine Agree.trans ((Same.set (is := [i]) (by simp)).agree fun k hk => by simp at hk; subst hk; exact hi) ((Same.set (is := [j]) (by simp)).agree fun k hk => by simp at hk; subst hk; exact hj)
  | [], _, _, _, e2 => simp [putAll] at e2
  | [_], _, _, _, e2 => simp [putAll] at e2
  | _ :: _ :: _ :: _, _, _, _, e2 => simp [putAll] at e2
/-! ### the datum at a place -/
def plcE (p : Pl) : Env → Option (D × Env) := fun ρ => (getP ρ p).bind fun y => (putP ρ p (share y)).map fun z => (share y, ρ.set p.base (some z))
theorem px_plc {p : Pl} {e : Expr} (h : PE X e (tPl X.K p)) : PX X e (plcE p) := by
  refine ⟨pe_imp h fun σ H Q ⟨Gf, N, ts, ρ, hl, hs, pr, e, q⟩ => ?_, fun ρ pr e => ?_⟩
  · obtain ⟨y, e1, e⟩ := bnd e
    obtain ⟨z, e2, rfl⟩ := mpd e
    obtain ⟨d0, e0⟩ := getP_base e1
    refine ⟨Gf, N, ts, ρ, hl, hs, y, e1, fun v u zs ev h1 bk => q u H ?_⟩
    have h2 : SR X.K Gf N H (tmp u (share y) :: tmp u (share y) :: (zs ++ (ts ++ σ.zip (ρ.set p.base none)))) := h1.share1.dup (share_share y)
    have h3 : SR X.K Gf N H (tmp u (share y) :: (zs ++ (tmp u (share y) :: (ts ++ σ.zip (ρ.set p.base none))))) := by
      refine h2.perm (List.Perm.cons _ ?_)
      exact List.perm_middle.symm
    have h4 := bk Gf N H _ _ z e2 h3
    have h5 := SR.put (ts := tmp u (share y) :: ts) (σ := σ) (i := p.base) h4 (by rw [len_set]; exact getS_lt e0) ev
    rw [List.set_set] at h5
    exact h5
  · obtain ⟨y, e1, e⟩ := bnd e
    obtain ⟨z, e2, rfl⟩ := mpd e
    exact len_set
/-! ### list(range(n)) -/
theorem SR.flats {K : PySem.W.Frag} {Gf H : Hp} {N : List Addr} {rs : List Root} (h : SR K Gf N H rs) (f : Nat → Int) : ∀ l : List Nat, SR K Gf N H (tmps (l.map fun i => V.int (f i)) (l.map fun i => D.int (f i)) ++ rs)
  | [] => h
  | n :: l => SR.flat (SR.flats h f l) (.int (f n))
noncomputable def lrgE (ea : Env → Option (D × Env)) : Env → Option (D × Env) := fun ρ => (ea ρ).bind fun p => match p.1 with
    | .int n => @ite _ (-(2 ^ 62) ≤ n ∧ n ≤ 16777216) (Classical.propDecidable _) (some (.lst .own (rngL 0 n.toNat), p.2)) none
    | _ => none
theorem lrgE_some {ρ : Env} {p : D × Env} (h : lrgE ea ρ = some p) : ∃ n ρ1, ea ρ = some (.int n, ρ1) ∧ (-(2 ^ 62) ≤ n ∧ n ≤ 16777216) ∧ p = (.lst .own (rngL 0 n.toNat), ρ1) := by
  obtain ⟨⟨d, ρ1⟩, e1, h⟩ := bnd h
  cases d <;> simp only [reduceCtorEq] at h
  split at h
  · cases h
    exact ⟨_, ρ1, e1, by assumption, rfl⟩
  · cases h
theorem px_lrg {e : Expr} (h : PE X e (tLstRg (tRg1 (tI X.K ea)))) (la : Ln ea) : PX X e (lrgE ea) := by
  refine ⟨pe_imp h fun σ H Q ⟨Gf, N, ts, ρ, hl, hs, p, e, q⟩ => ?_, fun ρ p e => ?_⟩
  · obtain ⟨n, ρ1, e1, hb, rfl⟩ := lrgE_some e
    refine ⟨Gf, N, ts, ρ, hl, hs, _, e1, fun x H1 h1 => ⟨n, h1.isInt, ⟨by omega, by omega, by omega, by omega, by omega⟩, fun a ha => q _ _ ?_⟩⟩
    have h2 : SR X.K Gf N H1 (ts ++ σ.zip ρ1) := h1.drop
    have h3 := SR.flats h2 (fun i => (0 : Int) + (i : Int)) (List.range n.toNat)
    have h4 := SR.newL (p := a) h3 (by simp) ha
    have e2 : rgV 0 n = (List.range n.toNat).map fun (i : Nat) => V.int ((0 : Int) + (i : Int)) := by unfold rgV; simp
    rw [e2]
    exact h4
  · obtain ⟨n, ρ1, e1, hb, rfl⟩ := lrgE_some e
    have := la _ _ e1
    exact this
/-! ### == by an own __eq__ -/
noncomputable def oeqE (Φ : Fs) (ms : List ((Str × Str) × Nat)) (ea eb : Env → Option (D × Env)) : Env → Option (D × Env) := fun ρ => (ea ρ).bind fun p => (eb p.2).bind fun q => if eqR p.1 q.1 = true then (methD ms (Str.ofString "__eq__") p.1).bind fun f => (Φ f [p.1, q.1]).bind fun r => (bareO r).bind fun d => (blO d).map fun k => (.bl k, q.2) else none
theorem oeqE_some {Φ : Fs} {ms : List ((Str × Str) × Nat)} {ρ : Env} {p : D × Env} (h : oeqE Φ ms ea eb ρ = some p) : ∃ pa pb f k, ea ρ = some pa ∧ eb pa.2 = some pb ∧ eqR pa.1 pb.1 = true ∧ methD ms (Str.ofString "__eq__") pa.1 = some f ∧ Φ f [pa.1, pb.1] = some (.bl k, [none, none]) ∧ p = (.bl k, pb.2) := by
  obtain ⟨pa, e1, h⟩ := bnd h
  obtain ⟨pb, e2, h⟩ := bnd h
  split at h
  · obtain ⟨f, e3, h⟩ := bnd h
    obtain ⟨r, e4, h⟩ := bnd h
    obtain ⟨d, e5, h⟩ := bnd h
    obtain ⟨k, e6, rfl⟩ := mpd h
    have e5 := bareO_some e5
    subst e5
    cases d <;> simp only [blO, reduceCtorEq] at e6
    cases e6
    exact ⟨pa, pb, f, _, e1, e2, by assumption, e3, e4, rfl⟩
  · cases h
theorem right_ok {K : PySem.W.Frag} {Gf H : Hp} {N : List Addr} {rs : List Root} {y : V} {fl : Fl} {c : Str} {ns : List Str} {xs : List D} {d : D} (h : SR K Gf N H (tmp y d :: rs)) (e : eqR (.obj fl c ns xs) d = true) : FX.RightOk K (He.ga K c) y H := by
  by_cases ho : ∃ o c' ms ys, d = .obj o c' ms ys
  · obtain ⟨o, c', ms, ys, rfl⟩ := ho
    have ec : c = c' := by simpa [eqR] using e
    subst ec
    obtain ⟨a, vs, ev, ⟨_, dx, ea⟩, _⟩ := SR.contV (v := y) h rfl
    exact .inr ⟨a, dx, _, ev, ea⟩
  · obtain ⟨G, F, g, r⟩ := h.head
    obtain ⟨t, ty, ht, _⟩ := r.ty g (fun o c ns xs z => ho ⟨_, _, _, _, z⟩) (fun u z => by subst z; simp [eqR] at e) (fun z => by subst z; simp [eqR] at e)
    exact .inl ⟨t, ht, ty⟩
theorem oeq_core {Φ : Fs} {Ψ : Fx} {ms : List ((Str × Str) × Nat)} {ar : Nat → Nat} (hn : ∀ f ds r, Φ f ds = some r → ds.length = ar f) (la : Ln ea) (lb : Ln eb) {σ : L2.St} {H : Hp} {Gf : Hp} {N : List Addr} {ts : List Root} {ρ : Env} {p : D × Env} (hl : σ.length = ρ.length) (hs : SR X.K Gf N H (ts ++ σ.zip ρ)) (e : oeqE Φ ms ea eb ρ = some p) :
    ∃ c f, ((c, Str.ofString "__eq__"), f) ∈ ms ∧ ∀ Q : VK, (∀ k H', p.1 = .bl k → SR X.K Gf N H' (ts ++ σ.zip p.2) → Q (.bl k) H') → tOp (FX.rOeq X.K (He.ga X.K c) (spOf X.K (ar f) (Φ f) (Ψ f)) (fun _ _ _ => False)) (tI X.K ea) (tI X.K eb) σ H Q := by
  obtain ⟨pa, pb, f, k, e1, e2, e0, e3, e4, rfl⟩ := oeqE_some e
  obtain ⟨fl, c, ns, xs, ep, hm, mem⟩ := methD_some e3
  refine ⟨c, f, mem, fun Q q => ⟨Gf, N, ts, ρ, hl, hs, pa, e1, fun x H1 h1 => ⟨Gf, N, tmp x pa.1 :: ts, pa.2, hl.trans (la _ _ e1).symm, h1, pb, e2, fun y H2 h2 => ?_⟩⟩⟩
  have h3 : SR X.K Gf N H2 (tmp y pb.1 :: tmp x (.obj fl c ns xs) :: (ts ++ σ.zip pb.2)) := by rw [← ep]; exact h2
  obtain ⟨w, dx, fs, ev, ew⟩ := gti_core h3
  refine ⟨⟨w, dx, fs, ev, ew⟩, right_ok (fl := fl) (ns := ns) (xs := xs) h3 (by rw [← ep]; exact e0), call_sp (ds := [pa.1, pb.1]) (rs := ts ++ σ.zip pb.2) (SR.swap2 h2) rfl (by have := hn _ _ _ e4; simpa using this) e4 fun v H' h4 => ?_⟩
  have h5 : SR X.K Gf N H' (tmp v (.bl k) :: (some x, none) :: (some y, none) :: (ts ++ σ.zip pb.2)) := h4
  have hv : v = .bl k := h5.isBl
  subst hv
  exact ⟨⟨k, rfl⟩, q k H' rfl (h5.drop.drop.drop)⟩
theorem oeq_ln {Φ : Fs} {ms : List ((Str × Str) × Nat)} (la : Ln ea) (lb : Ln eb) : Ln (oeqE Φ ms ea eb) := fun ρ p e => by
  obtain ⟨pa, pb, f, k, e1, e2, e0, e3, e4, rfl⟩ := oeqE_some e
  show pb.2.length = _
  rw [lb _ _ e2]; exact la _ _ e1
theorem pt_any {X : Cx} {e : Expr} {t' : TT} (f : ∀ σ H Q, t' σ H Q → ∃ t, PT X e t ∧ t σ H Q) : PT X e t' := ⟨fun pins s σ H Q I q => by
  obtain ⟨t, h, q'⟩ := f σ H Q q
  exact h.run pins s σ H Q I q'⟩
theorem px_oeq {Φ : Fs} {Ψ : Fx} {ms : List ((Str × Str) × Nat)} {ar : Nat → Nat} {e : Expr} (hn : ∀ f ds r, Φ f ds = some r → ds.length = ar f) (la : Ln ea) (lb : Ln eb)
    (h : ∀ c f, ((c, Str.ofString "__eq__"), f) ∈ ms → PE X e (tOp (FX.rOeq X.K (He.ga X.K c) (spOf X.K (ar f) (Φ f) (Ψ f)) (fun _ _ _ => False)) (tI X.K ea) (tI X.K eb))) : PX X e (oeqE Φ ms ea eb) := by
  refine ⟨pe_any fun σ H Q ⟨Gf, N, ts, ρ, hl, hs, p, e, q⟩ => ?_, oeq_ln la lb⟩
  obtain ⟨c, f, mem, g⟩ := oeq_core (Ψ := Ψ) hn la lb hl hs e
  refine ⟨_, h c f mem, g Q fun k H' ek h1 => q _ _ ?_⟩
  rw [ek]
  exact SR.flat h1 (.bl k)
theorem pxt_oeq {Φ : Fs} {Ψ : Fx} {ms : List ((Str × Str) × Nat)} {ar : Nat → Nat} {e : Expr} (hn : ∀ f ds r, Φ f ds = some r → ds.length = ar f) (la : Ln ea) (lb : Ln eb)
    (h : ∀ c f, ((c, Str.ofString "__eq__"), f) ∈ ms → PT X e (tTest (tOp (FX.rOeq X.K (He.ga X.K c) (spOf X.K (ar f) (Φ f) (Ψ f)) (fun _ _ _ => False)) (tI X.K ea) (tI X.K eb)))) : PXT X e (asT (oeqE Φ ms ea eb)) := by
  refine ⟨pt_any fun σ H Q ⟨Gf, N, ts, ρ, hl, hs, ⟨b, ρ'⟩, e, q⟩ => ?_, Ln.asT (oeq_ln la lb)⟩
  obtain ⟨c, f, mem, g⟩ := oeq_core (Ψ := Ψ) hn la lb hl hs (asT_some e)
  refine ⟨_, h c f mem, g _ fun k H' ek h1 => ⟨k, rfl, ?_⟩⟩
  cases ek
  exact q _ h1
/-! ### isinstance of an own class -/
/-- what is known of an own class: it is none of the built-in ones -/
structure OcOk (K : PySem.W.Frag) (C : Addr) : Prop where
  ic : PySem.W.findIn K (.ref C) "__class__" = some (some (.builtin "object.__class__"))
  hn : PySem.W.specialIn K (.builtin "object.__class__") "__get__" = some (some (.builtin "getset_descriptor.__get__"))
  htk : PySem.W.takesIn K (.builtin "object.__class__") = some true
  hm : PySem.W.mroIn K C (.type "object") = some true
  cl : Cls K C
  ki : ∀ n ∈ FX.tyNames, PySem.W.kitOne K (.type n) (.ref C) = some false
  su : ∀ n ∈ FX.tyNames, PySem.W.subIn K (.type n) (.ref C) = some false
theorem snd_isO {K : PySem.W.Frag} {Gf H : Hp} {N : List Addr} {rs : List Root} {v : V} {d : D} {c : Str} {b : Bool} {Q : VK} (o : OcOk K (He.ga K c)) (h : SR K Gf N H (tmp v d :: rs)) (e : isiD d (.own c) = some b) (q : Q (.bl b) H) : rIsi K [v, .ref (He.ga K c)] H Q := by
  by_cases ho : ∃ o c' ms ys, d = .obj o c' ms ys
  · obtain ⟨o', c', ms, ys, rfl⟩ := ho
    simp only [isiD] at e
    split at e
    · rename_i ec
      cases e
      subst ec
      obtain ⟨a, vs, ev, ⟨_, dx, ea⟩, _⟩ := SR.contV (v := v) h rfl
      subst ev
      refine ⟨_, _, .ref (He.ga K c'), .ref (He.ga K c'), true, rfl, .own _, .base (.ins ea o.cl o.ic o.hn o.htk o.hm), ?_, q⟩
      unfold PySem.W.kitOne
      simp
    · cases e
  · obtain ⟨G, F, g, r⟩ := h.head
    have hh : ∀ u, d ≠ .hole u := fun u z => by subst z; simp [isiD] at e
    have ha : d ≠ .any := fun z => by subst z; simp [isiD] at e
    obtain ⟨t, ty, ht, _⟩ := r.ty g (fun o c ns xs z => ho ⟨_, _, _, _, z⟩) hh ha
    have eb : b = false := by
      cases d <;> simp only [isiD, Option.some.injEq] at e <;> first | exact e.symm | (exact absurd ⟨_, _, _, _, rfl⟩ ho) | (cases e)
    subst eb
    exact ⟨v, _, .type t, .ref (He.ga K c), false, rfl, .own _, ty, o.ki t ht, q⟩
theorem px_isO {c : Str} {e : Expr} (o : OcOk X.K (He.ga X.K c)) (h : PE X e (tCB (rIsi X.K) (tCons (tI X.K ea) (tCons (tC (.ref (He.ga X.K c))) tNil)))) (la : Ln ea) : PX X e (fun ρ => (ea ρ).bind fun p => (isiD p.1 (.own c)).map fun b => (.bl b, p.2)) := by
  refine ⟨pe_imp h fun σ H Q ⟨Gf, N, ts, ρ, hl, hs, p, e, q⟩ => ?_, fun ρ p e => ?_⟩
  · obtain ⟨pa, e1, e⟩ := bnd e
    obtain ⟨b, e2, rfl⟩ := mpd e
    exact ⟨Gf, N, ts, ρ, hl, hs, pa, e1, fun x H1 h1 => snd_isO o h1 e2 (q _ _ (h1.drop.flat (.bl _)))⟩
  · obtain ⟨pa, e1, e⟩ := bnd e
    obtain ⟨b, e2, rfl⟩ := mpd e
    have := la _ _ e1
    exact this
end
end FL

namespace FL
open PySem PySem.Spec PyProof.Rows L2
/-! ### names for the two parts of a pair, the second one changed in place -/
theorem pair2_some {y : D} {q : D × D} (h : pair2 y = some q) : y = .tup [q.1, q.2] ∧ flatD q.1 = true := by
  unfold pair2 at h
  split at h
  · split at h
    · cases h; exact ⟨rfl, by assumption⟩
    · cases h
  · cases h
section
variable {X : Cx} {io : List Nat} {W : WX} {st : Stmt} {body rest : List Stmt} {xb xr : Env → Option Flow}
noncomputable def aliE2 (t i : Nat) (p : Pl) (xb xr : Env → Option Flow) : Env → Option Flow := fun ρ => (getP ρ p).bind fun y => (pair2 y).bind fun ab => (ixsD ρ (.sub p (.c 1))).bind fun ns =>
  (allV fun v => ((putP ρ (.sub p (.c 1)) (.hole v)).bind fun z => (putS (ρ.set p.base (some z)) t ab.1).bind fun ρ0 => putS ρ0 i ab.2).bind fun ρ1 => (xb ρ1).bind (giveF i p.base ns v)).bind fun fl => match fl with
    | .nx ρ1 => xr ρ1
    | fl => some fl
theorem SR.flatOf {K : PySem.W.Frag} {Gf H : Hp} {N : List Addr} {rs : List Root} {v : V} {d : D} (h : SR K Gf N H (tmp v d :: rs)) (f : flatD d = true) : Flat v d := by
  cases d <;> simp [flatD] at f
  · obtain ⟨G, F, g, r⟩ := h.head; cases r; exact .non
  · obtain ⟨G, F, g, r⟩ := h.head; cases r; exact .bl _
  · obtain ⟨G, F, g, r⟩ := h.head; cases r; exact .int _
  · obtain ⟨G, F, g, r⟩ := h.head; cases r; exact .str _
theorem pxss_ali2 {t i : Nat} {p : Pl} (hti : t ≠ i) (htb : t ≠ p.base) (hib : i ≠ p.base) (hto : t ∉ io) (hio : i ∉ io) (h : PS X st (tAsg (tPl X.K p) (gTL X.K 2 (gNames [t, i])))) (hb : PXSs X (i :: p.base :: io) W body xb) (hr : PXSs X io W rest xr) : PXSs X io W (st :: (body ++ rest)) (aliE2 t i p xb xr) :=
  pss_imp (pss_cons h (pss_app hb hr)) fun D σ H ⟨Gf, N, ts, ρ, hl, hs, fl, e, q⟩ => by
    obtain ⟨y, e1, e⟩ := bnd e
    obtain ⟨ab, e1', e⟩ := bnd e
    obtain ⟨ns, e2, e⟩ := bnd e
    obtain ⟨f1, e3, e⟩ := bnd e
    obtain ⟨a, b⟩ := ab
    obtain ⟨rfl, hfa⟩ := pair2_some e1'
    simp only at hfa
    obtain ⟨d0, e0⟩ := getP_base e1
    refine ⟨Gf, N, ts, ρ, hl, hs, .tup [a, b], e1, fun v u zs ev h1 bk => ?_⟩
    obtain ⟨a', vs, eu, c, l, f⟩ := h1.out rfl
    subst eu
    obtain ⟨u0, eu0, h0⟩ := f 0 a rfl
    obtain ⟨u1, eu1, h2⟩ := f 1 b rfl
    have fl0 := h0.flatOf hfa
    have evs : vs = [u0, u1] := by
      match vs, l, eu0, eu1 with
      | [x0, x1], _, eu0, eu1 => cases eu0; cases eu1; rfl
    subst evs
    have e4 := allV_some e3 u1
    obtain ⟨ρ1, e5, e4⟩ := bnd e4
    obtain ⟨z, e6, e5⟩ := bnd e5
    obtain ⟨ρ0, e5', e5⟩ := bnd e5
    obtain ⟨fb, e7, e8⟩ := bnd e4
    obtain ⟨ht, rfl⟩ := putS_some e5'
    obtain ⟨hi, rfl⟩ := putS_some e5
    simp only at e7
    have e6' : putP ρ p (.tup [a, .hole u1]) = some z := by
      obtain ⟨x0, g1, e6⟩ := bnd e6
      rw [e1] at g1; cases g1
      obtain ⟨n0, g2, e6⟩ := bnd e6
      cases g2
      obtain ⟨x1, g3, e6⟩ := bnd e6
      obtain ⟨j0, _, ej0, rfl⟩ := put1_some g3
      have : j0 = 1 := by
        have : ixN 2 (1 : Int) = some 1 := rfl
        have e : ixN 2 (1 : Int) = some j0 := ej0
        rw [this] at e; exact (Option.some.inj e).symm
      subst this
      exact e6
    have h3 := bk Gf N H (tmp u1 b :: (ts ++ σ.zip (ρ.set p.base none))) _ z e6' (h2.perm ((List.Perm.swap _ _ _).trans ((List.perm_middle.symm).cons _)))
    have h4 : SR X.K Gf N H ((tmp u1 b :: ts) ++ σ.zip (ρ.set p.base (some z))) := by
      have := SR.put (ts := tmp u1 b :: ts) (σ := σ) (i := p.base) h3 (by rw [len_set]; exact getS_lt e0) ev
      rw [List.set_set] at this
      exact this
    have h5 : SR X.K Gf N H ((tmp u1 b :: ts) ++ (σ.set t (some u0)).zip ((ρ.set p.base (some z)).set t (some a))) := SR.store (SR.flat h4 fl0) (by rw [len_set]; exact hl) ht
    have h6 : SR X.K Gf N H (ts ++ ((σ.set t (some u0)).set i (some u1)).zip (((ρ.set p.base (some z)).set t (some a)).set i (some b))) := SR.store h5 (by simp [hl]) hi
    have hlt : t < σ.length := by rw [len_set] at ht; rw [hl]; exact ht
    have hli : i < σ.length := by rw [len_set, len_set] at hi; rw [hl]; exact hi
    have ag : Agree io σ ((σ.set t (some u0)).set i (some u1)) := ((Same.set (is := [t]) (by simp)).agree fun j hj => by simp at hj; subst hj; exact hto).trans ((Same.set (is := [i]) (by simp)).agree fun j hj => by simp at hj; subst hj; exact hio)
    refine .inl ⟨a', [u0, u1], rfl, c, rfl, ?_⟩
    refine ⟨u0, [u1], rfl, u1, [], rfl, rfl, ?_⟩
    refine ⟨Gf, N, ts, _, by simp [hl], h6, fb, e7, ?_⟩
    refine give_ok (σ := σ) hib e8 (by simp [hli]) ag ?_
    cases f1 with
    | nx ρ2 => exact fun σ' H' a l h => ⟨Gf, N, ts, ρ2, l, h, fl, e, q.agree a⟩
    | bk ρ2 => cases e; exact q
    | ct ρ2 => cases e; exact q
    | rt d ρ2 => cases e; exact q
    | ex x ρ2 => cases e; exact q
end
end FL

/-! F13: the checker: does a piece of the small language stand for a piece of the program's text? -/
namespace FL
open PySem PySem.Spec PyProof.Rows L2 StX
structure SC where
  N : List Str
  sc : Scope
  fn : Str → Bool
def visB (sc : Scope) (x : Str) : Bool := match sc.names.lookup x with
  | some .local => true
  | some .cell => true
  | some .free => true
  | _ => false
def locB (sc : Scope) (x : Str) : Bool := match sc.names.lookup x with
  | some .local => true
  | some .cell => true
  | _ => false
def plainN (x : Str) : Bool := !(x == ("__debug__" : Str)) && !(x == ("__classdict__" : Str))
def nameOk (C : SC) (i : Nat) (x : Str) : Bool := decide (C.N[i]? = some x) && (visB C.sc x && plainN x)
def isLoc (sc : Scope) (x : Str) : Bool := decide (sc.names.lookup x = some .local)
def storeOk (C : SC) (i : Nat) (x : Str) : Bool := decide (C.N[i]? = some x) && (locB C.sc x && (C.fn x || isLoc C.sc x))
def glB (C : SC) (x : Str) : Bool := decide (C.sc.names.lookup x = some .globalImplicit) && plainN x
def noStar : Expr → Bool
  | .Starred _ _ => false
  | _ => true
def notCall : Expr → Bool
  | .Call _ _ _ _ => false
  | _ => true
def notSlice : Expr → Bool
  | .Slice _ _ _ _ => false
  | _ => true
def notSet : Expr → Bool
  | .Set _ _ _ => false
  | _ => true
def notComp : Expr → Bool
  | .ListComp _ _ _ _ => false
  | .SetComp _ _ _ _ => false
  | .DictComp _ _ _ _ _ => false
  | _ => true
def notTuple : Expr → Bool
  | .Tuple _ _ _ => false
  | _ => true
def cstOk : Cst → Const → Bool
  | .non, .none => true
  | .bl b, .bool c => decide (b = c)
  | .int i, .int j => decide (i = j)
  | .str x, .str y => decide (x = y)
  | _, _ => false
def ckNames (C : SC) : List Nat → List Expr → Bool
  | [], [] => true
  | i :: is, .Name x _ :: es => storeOk C i x && ckNames C is es
  | _, _ => false
def ckTg (C : SC) : Tg → Expr → Bool
  | .name i, .Name x _ => storeOk C i x
  | .names is, .Tuple es _ _ => ckNames C is es
  | _, _ => false
def isTuple : Expr → Bool
  | .Tuple _ _ _ => true
  | _ => false
def blkSC (C : SC) (scope : Scope) : SC := ⟨C.N, relS scope C.sc, fun x => scope.names.lookup x == some .cell⟩
def ownOf (C : SC) (t : Tg) : List (Str × Nat) := t.slots.filterMap fun i => (C.N[i]?).map fun x => (x, i)
def ownOf2 (C : SC) (t1 t2 : Tg) : List (Str × Nat) := (t1.slots ++ t2.slots).filterMap fun i => (C.N[i]?).map fun x => (x, i)
def ckIx (C : SC) : Ix → Expr → Bool
  | .c n, .Constant (.int m) _ _ => decide (n = m)
  | .c n, .UnaryOp .USub (.Constant (.int m) _ _) _ => decide (n = -m)
  | .v i, .Name x _ => nameOk C i x
  | .cv n i, .BinOp (.Constant (.int m) _ _) .Add (.Name x _) _ => decide (n = m) && nameOk C i x
  | _, _ => false
def ckPl (C : SC) : Pl → Expr → Bool
  | .nm i, .Name x _ => nameOk C i x
  | .sub p ix, .Subscript l r _ => notSlice r && (ckPl C p l && ckIx C ix r)
  | _, _ => false
section
variable (T : Tab)
mutual
def ckE (C : SC) : E → Expr → Bool
  | .cst c, e => match e with
    | .Constant k _ _ => cstOk c k
    | _ => false
  | .var i, e => match e with
    | .Name x _ => nameOk C i x
    | _ => false
  | .mov i, e => match e with
    | .Name x _ => nameOk C i x
    | _ => false
  | .bin op a b, e => match e with
    | .BinOp l o r _ => decide (o = astB op) && (ckE C a l && ckE C b r)
    | _ => false
  | .neg a, e => match e with
    | .UnaryOp o x _ => decide (o = .USub) && ckE C a x
    | _ => false
  | .not a, e => match e with
    | .UnaryOp o x _ => decide (o = .Not) && ckE C a x
    | _ => false
  | .and es, e => match e with
    | .BoolOp o xs _ => decide (o = .And) && ckBs C es xs
    | _ => false
  | .or es, e => match e with
    | .BoolOp o xs _ => decide (o = .Or) && ckBs C es xs
    | _ => false
  | .cmp op a b, e => match e with
    | .Compare l [o] [r] _ => decide (o = astC op) && (notSet r && (ckE C a l && ckE C b r))
    | _ => false
  | .chn op op' a b c, e => match e with
    | .Compare l [o, o'] [m, r] _ => decide (o = astC op) && (decide (o' = astC op') && (notSet r && (ckE C a l && (ckE C b m && ckE C c r))))
    | _ => false
  | .ite c a b, e => match e with
    | .IfExp t x y _ => ckE C c t && (ckE C a x && ckE C b y)
    | _ => false
  | .shr a, e => ckE C a e
  | .gti o b, e => match e with
    | .Subscript l r _ => notSlice r && (ckE C o l && ckE C b r)
    | _ => false
  | .oeq o b, e => match e with
    | .Compare l [op] [r] _ => decide (op = CmpOp.Eq) && (notSet r && (ckE C o l && ckE C b r))
    | _ => false
  | .lrg a, e => match e with
    | .Call (.Name x _) [.Call (.Name y _) [z] [] _] [] _ => decide (x = ("list" : Str)) && (glB C x && (decide (y = ("range" : Str)) && (glB C y && (noStar z && ckE C a z))))
    | _ => false
  | .plc p, e => ckPl C p e
  | .dic0, e => match e with
    | .Dict [] [] _ => true
    | _ => false
  | .bor a, e => ckE C a e
  | .comp2 elt t1 it1 t2 it2 cond, e => match e with
    | .ListComp el [⟨tg, itr, [], as⟩, ⟨tg1, itr1, ifs1, as1⟩] scope _ => decide (as = 0) && (decide (as1 = 0) && (notSet itr && (notSet itr1 && (blkC C.N C.sc scope (ownOf2 C t1 t2) && (decide ((ownOf2 C t1 t2).map (·.2) = t1.slots ++ t2.slots) &&
        (ckI C it1 itr tg && (ckTg (blkSC C scope) t1 tg && (ckI (blkSC C scope) it2 itr1 tg1 && (ckTg (blkSC C scope) t2 tg1 && (ckCs (blkSC C scope) cond ifs1 && ckE (blkSC C scope) elt el))))))))))
    | _ => false
  | .lnv i, e => match e with
    | .Call (.Name x _) [.Name y _] [] _ => decide (x = ("len" : Str)) && (glB C x && nameOk C i y)
    | _ => false
  | .lst es, e => match e with
    | .List xs _ => ckEs C es xs
    | _ => false
  | .tup es, e => match e with
    | .Tuple xs _ _ => ckEs C es xs
    | _ => false
  | .idx a b, e => match e with
    | .Subscript l r _ => notSlice r && (ckE C a l && ckE C b r)
    | _ => false
  | .idv i b, e => match e with
    | .Subscript (.Name x _) r _ => notSlice r && (nameOk C i x && ckE C b r)
    | _ => false
  | .slc a lo hi, e => match e with
    | .Subscript l (.Slice x y none _) _ => ckE C a l && (ckO C lo x && ckO C hi y)
    | _ => false
  | .call f as, e => match e with
    | .Call (.Name x _) xs [] _ => decide ((T.fns[f]?).map (·.at_) = some (x, none)) && (glB C x && ckAs C as xs)
    | _ => false
  | .meth m o as, e => match e with
    | .Call (.Attribute oe m' ap) xs [] p => decide (m' = m) && (notCall oe && ((ap.endLine == p.line) && (decide (xs.length < 30) && (ckA C o oe && ckAs C as xs))))
    | _ => false
  | .make c f as, e => match e with
    | .Call (.Name x _) xs [] _ => decide (x = c) && (decide ((T.fns[f]?).map (·.at_) = some (c, some ("__init__" : Str))) && (glB C x && ckAs C as xs))
    | _ => false
  | .blt b es, e => match e with
    | .Call (.Name x _) xs [] _ => decide (x = bltN b) && (glB C x && ckPs C es xs)
    | _ => false
  | .isi a t, e => match e with
    | .Call (.Name x _) [y, .Name n _] [] _ => match t with
      | .bi m => decide (x = ("isinstance" : Str)) && (decide (n = Str.ofString m) && (biNames.contains m && (glB C x && (glB C n && (noStar y && ckE C a y)))))
      | .own c => decide (x = ("isinstance" : Str)) && (decide (n = c) && (T.oc.contains c && (glB C x && (glB C n && (noStar y && ckE C a y)))))
    | _ => false
  | .fld a f, e => match e with
    | .Attribute l g _ => decide (g = f) && (notCall l && ckE C a l)
    | _ => false
  | .flv i f, e => match e with
    | .Attribute (.Name x _) g _ => decide (g = f) && nameOk C i x
    | _ => false
  | .comp elt t it cond, e => match e with
    | .ListComp el [⟨tg, itr, ifs, as⟩] scope _ => decide (as = 0) && (notSet itr && (blkC C.N C.sc scope (ownOf C t) && (decide ((ownOf C t).map (·.2) = t.slots) &&
        (ckI C it itr tg && (ckTg (blkSC C scope) t tg && (ckCs (blkSC C scope) cond ifs && ckE (blkSC C scope) elt el))))))
    | _ => false
def ckO (C : SC) : OE → Option Expr → Bool
  | .no, e => match e with
    | none => true
    | _ => false
  | .yes a, e => match e with
    | some x => ckE C a x
    | _ => false
def ckCs (C : SC) : OE → List Expr → Bool
  | .no, e => match e with
    | [] => true
    | _ => false
  | .yes a, e => match e with
    | [x] => ckE C a x
    | _ => false
def ckBs (C : SC) : Es → List Expr → Bool
  | .nil, _ => false
  | .star _ _, _ => false
  | .cons a es, e => match e with
    | [x] => (match es with | .nil => true | _ => false) && ckE C a x
    | x :: y :: r => ckE C a x && ckBs C es (y :: r)
    | [] => false
def ckPs (C : SC) : Es → List Expr → Bool
  | .nil, e => match e with
    | [] => true
    | _ => false
  | .star _ _, _ => false
  | .cons a es, e => match e with
    | x :: r => noStar x && (ckE C a x && ckPs C es r)
    | [] => false
def ckEs (C : SC) : Es → List Expr → Bool
  | .nil, e => match e with
    | [] => true
    | _ => false
  | .star a es, e => match e with
    | .Starred x _ :: r => ckE C a x && ckEs C es r
    | _ => false
  | .cons a es, e => match e with
    | x :: r => noStar x && (ckE C a x && ckEs C es r)
    | [] => false
def ckA (C : SC) : A → Expr → Bool
  | .val a, e => noStar e && ckE C a e
  | .ref i, e => match e with
    | .Name x _ => nameOk C i x
    | _ => false
def ckAs (C : SC) : As → List Expr → Bool
  | .nil, e => match e with
    | [] => true
    | _ => false
  | .cons a as, e => match e with
    | x :: r => ckA C a x && ckAs C as r
    | [] => false
def ckI (C : SC) : It → Expr → Expr → Bool
  | .seq a, e, _ => ckE C a e
  | .rng a, e, _ => match e with
    | .Call (.Name x _) [y] [] _ => decide (x = ("range" : Str)) && (glB C x && (noStar y && ckE C a y))
    | _ => false
  | .mvs i, e, _ => match e with
    | .Name x _ => nameOk C i x
    | _ => false
  | .rng2 a b, e, _ => match e with
    | .Call (.Name x _) [y, z] [] _ => decide (x = ("range" : Str)) && (glB C x && (noStar y && (noStar z && (ckE C a y && ckE C b z))))
    | _ => false
  | .zip a b, e, tg => match e with
    | .Call (.Name x _) [y, z] [] _ => decide (x = ("zip" : Str)) && (isTuple tg && (glB C x && (noStar y && (noStar z && (ckE C a y && ckE C b z)))))
    | _ => false
  | .enum a, e, tg => match e with
    | .Call (.Name x _) [y] [] _ => decide (x = ("enumerate" : Str)) && (isTuple tg && (glB C x && (noStar y && ckE C a y)))
    | _ => false
end
def mopN : MOp → Str
  | .app => "append"
  | .clr => "clear"
  | .rev => "reverse"
  | .pop => "pop"
  | .popI => "pop"
  | .ext => "extend"
  | .ins => "insert"
/-- y = [..] -/
def compAsg (C : SC) : Expr → Expr → Bool
  | .Name y py, .ListComp _ gs scope pos => decide (gs.length = 1 ∨ gs.length = 2) && if isLoc C.sc y = true then (py.line == pos.line) && !(scope.names.any fun (n, k) => n == y && (k == .local || k == .cell)) else true
  | _, _ => false
def isCompE : E → Bool
  | .comp _ _ _ _ => true
  | _ => false
/-- a class that an exception may be asked for -/
def xName (x : Str) : Bool := (T.xt.any fun q => decide (q.1 = x)) || decide (x = ("ValueError" : Str))
def nmOk (C : SC) (sl : Option Nat) (x : Str) : Bool := match sl with
  | some i => nameOk C i x
  | none => false
mutual
def ckSE (C : SC) (sl : Option Nat) : SE → Expr → Bool
  | .cst c, e => match e with
    | .Constant k _ _ => cstOk c k
    | _ => false
  | .fld f, e => match e with
    | .Attribute (.Name x _) g _ => decide (g = f) && (nmOk C sl x && T.xi.any fun q => decide (q.2 = f))
    | _ => false
  | .isx c, e => match e with
    | .Call (.Name f _) [.Name x _, .Name y _] [] _ => decide (f = ("isinstance" : Str)) && (glB C f && (nmOk C sl x && (decide (y = c) && (glB C y && xName T y))))
    | _ => false
  | .tup es, e => match e with
    | .Tuple xs _ _ => ckSEs C sl es xs
    | _ => false
  | .and a b, e => match e with
    | .BoolOp o [x, y] _ => decide (o = .And) && (ckSE C sl a x && ckSE C sl b y)
    | _ => false
  | .isint f a, e => match e with
    | .Call (.Name x _) [y] [] _ => T.isn.contains f && (decide ((T.fns[f]?).map (·.at_) = some (x, none)) && (glB C x && (noStar y && ckSE C sl a y)))
    | _ => false
def ckSEs (C : SC) (sl : Option Nat) : SEs → List Expr → Bool
  | .nil, e => match e with
    | [] => true
    | _ => false
  | .cons a es, e => match e with
    | x :: r => noStar x && (ckSE C sl a x && ckSEs C sl es r)
    | [] => false
end
def ckSS (io : List Nat) (C : SC) (sl : Option Nat) : SS → Stmt → Bool
  | .set i e, s => match s with
    | .Assign [.Name x _] v _ => storeOk C i x && (!(io.contains i) && (notComp v && (!(decide (sl = some i)) && ckSE T C sl e v)))
    | _ => false
  | .ret e, s => match s with
    | .Return (some v) _ => ckSE T C sl e v
    | _ => false
def slB (io : List Nat) (C : SC) : Option Str → Option Nat → Bool
  | none, none => true
  | some n, some i => decide (C.N[i]? = some n) && (isLoc C.sc n && !(io.contains i))
  | _, _ => false
def ckHd (io : List Nat) (C : SC) (h : Hd) : ExceptHandler → Bool
  | .ExceptHandler (some (.Name x _)) nm [st] _ => decide (x = h.c) && (glB C x && (slB io C nm h.sl && (ckSS T io C h.sl h.s st && T.xt.any fun q => decide (q.1 = x))))
  | _ => false
def ckHds (io : List Nat) (C : SC) : List Hd → List ExceptHandler → Bool
  | [], [] => true
  | h :: hs, e :: es => ckHd T io C h e && ckHds io C hs es
  | _, _ => false
def ckMay (io : List Nat) (C : SC) (e : E) : May → Stmt → Bool
  | .set t, s => match s with
    | .Assign [tg] v p => t.slots.all (fun i => !(io.contains i)) && (ckTg C t tg && (ckE T C e v && (notComp v && (notTuple tg || notTuple v))))
    | _ => false
  | .ex, s => match s with
    | .Expr v _ => notComp v && ckE T C e v
    | _ => false
  | .ret, s => match s with
    | .Return (some v) _ => ckE T C e v
    | _ => false
/-- x, y = a, b is stored from the right -/
def parOk (x : Str) (px : Pos) (y : Str) (py : Pos) (a b : Expr) : Bool := !(x == y) && ((py.line == px.line) && (!([a, b].all (foldedForSure 8)) && !([a, b].all (constantsAlone 8))))
mutual
def ckS (io : List Nat) (C : SC) : S → Stmt → Bool
  | .set t e, s => match s with
    | .Assign [tg] v p => t.slots.all (fun i => !(io.contains i)) && (ckTg C t tg && (ckE T C e v && ((notComp v && (notTuple tg || notTuple v)) || compAsg C tg v)))
    | _ => false
  | .setI i b e, s => match s with
    | .Assign [.Subscript (.Name x _) r _] v _ => nameOk C i x && (notSlice r && (ckE T C b r && ckE T C e v))
    | _ => false
  | .setF i f e, s => match s with
    | .Assign [.Attribute (.Name x _) g _] v _ => nameOk C i x && (decide (g = f) && ckE T C e v)
    | _ => false
  | .aug i op e, s => match s with
    | .AugAssign (.Name x _) o v _ => storeOk C i x && (!(io.contains i) && (((decide (op = .add) && decide (o = .Add)) || (decide (op = .sub) && decide (o = .Sub))) && ckE T C e v))
    | _ => false
  | .app i e, s => match s with
    | .Expr (.Call (.Attribute (.Name x _) m ap) [v] [] cp) _ => nameOk C i x && (decide (m = ("append" : Str)) && ((ap.endLine == cp.line) && (noStar v && ckE T C e v)))
    | _ => false
  | .ex e, s => match s with
    | .Expr v _ => notComp v && ckE T C e v
    | _ => false
  | .ite c a b, s => match s with
    | .If t x y _ => ckE T C c t && (ckSs io C a x && ckSs io C b y)
    | _ => false
  | .loop t it b, s => match s with
    | .For tg itr body [] _ => t.slots.all (fun i => !(io.contains i)) && (notSet itr && (ckI T C it itr tg && (ckTg C t tg && ckSs io C b body)))
    | _ => false
  | .whl c b, s => match s with
    | .While t body [] _ => ckE T C c t && ckSs io C b body
    | _ => false
  | .ret e, s => match s with
    | .Return (some v) _ => ckE T C e v
    | _ => false
  | .retN, s => match s with
    | .Return none _ => true
    | _ => false
  | .brk, s => match s with
    | .Break _ => true
    | _ => false
  | .cnt, s => match s with
    | .Continue _ => true
    | _ => false
  | .pass, s => match s with
    | .Pass _ => true
    | _ => false
  | .nev, _ => true
  | .setP p ix e, s => match s with
    | .Assign [.Subscript o r _] v _ => notSlice r && (ckPl C p o && (ckIx C ix r && ckE T C e v))
    | _ => false
  | .mutP p op es, s => match s with
    | .Expr (.Call (.Attribute o m ap) xs [] cp) _ => decide (m = mopN op) && (mopOk op && ((ap.endLine == cp.line) && (decide (xs.length < 30) && (notCall o && (ckPl C p o && ckPs T C es xs)))))
    | _ => false
  | .par is es, s => match is with
    | [i, j] => match s with
      | .Assign [.Tuple [.Name x px, .Name y py] kt pt] (.Tuple [a, b] k2 p2) _ => storeOk C i x && (storeOk C j y && (isLoc C.sc x && (isLoc C.sc y && (decide (i ≠ j) && (!(io.contains i) && (!(io.contains j) && (parOk x px y py a b && ckPs T C es [a, b])))))))
      | _ => false
    | _ => false
  | .setS i a b e, s => match s with
    | .Assign [.Subscript (.Name x _) (.Slice (some ra) (some rb) none _) _] v _ => nameOk C i x && (ckE T C a ra && (ckE T C b rb && ckE T C e v))
    | _ => false
  | .swp i j a b e, s => match s with
    | .Assign [.Tuple [.Subscript (.Name x _) ra _, .Subscript (.Name y _) rb _] _ _] v _ => nameOk C i x && (nameOk C j y && (notSlice ra && (notSlice rb && (ckE T C a ra && (ckE T C b rb && (ckE T C e v && notComp v))))))
    | _ => false
  | .bor is a, s => is.all (fun i => !(io.contains i)) && ckS (ioB C.N.length is) C a s
  | .may k e, s => ckMay T io C e k s
  | .rse0 c, s => match s with
    | .Raise (some (.Call (.Name x _) [] [] _)) none _ => decide (x = c) && (glB C x && ((T.xt.any fun q => decide (q.1 = x)) && !(T.xi.any fun q => decide (q.1 = x))))
    | _ => false
  | .rse1 c f e, s => match s with
    | .Raise (some (.Call (.Name x _) [y] [] _)) none _ => decide (x = c) && (glB C x && ((T.xi.any fun q => decide (q = (x, f))) && (noStar y && ckE T C e y)))
    | _ => false
  | .try_ b hs, s => match s with
    | .Try body (h0 :: hds) [] [] _ => ckSs io C b body && ckHds T io C hs (h0 :: hds)
    | _ => false
  | .mutN i op es, s => match s with
    | .Expr (.Call (.Attribute (.Name x _) m ap) xs [] cp) _ => nameOk C i x && (decide (m = mopN op) && (mopOk op && ((ap.endLine == cp.line) && (decide (xs.length < 30) && (decide (0 < xs.length) && ckPs T C es xs)))))
    | _ => false
  | .loopO t b body, s => match s with
    | .For (.Name y _) (.Name x _) bd [] _ => storeOk C t y && (nameOk C b x && (!(io.contains t) && (decide (t ≠ b) && ckSs (t :: b :: io) C body bd)))
    | _ => false
def ckSs (io : List Nat) (C : SC) : Ss → List Stmt → Bool
  | .nil, s => match s with
    | [] => true
    | _ => false
  | .cons a as, s => match s with
    | x :: r => ckS io C a x && ckSs io C as r
    | [] => false
  | .alt a b, s => ckSs io C a s && ckSs io C b s
  | .ali i p body rest, s => match s with
    | .Assign [.Name x _] v _ :: r => storeOk C i x && (!(io.contains i) && (decide (i ≠ p.base) && (notComp v && (ckPl C p v && (ckSs (i :: p.base :: io) C body (r.take body.cnt) && ckSs io C rest (r.drop body.cnt))))))
    | _ => false
  | .ali2 t i p body rest, s => match s with
    | .Assign [tg] v _ :: r => ckTg C (.names [t, i]) tg && (!(io.contains t) && (!(io.contains i) && (decide (t ≠ i) && (decide (t ≠ p.base) && (decide (i ≠ p.base) && (notComp v && (notTuple v && (ckPl C p v && (ckSs (i :: p.base :: io) C body (r.take body.cnt) && ckSs io C rest (r.drop body.cnt))))))))))
    | _ => false
end
end
/-! ### what the checks say -/
theorem ba2 {a b : Bool} (h : (a && b) = true) : a = true ∧ b = true := Bool.and_eq_true_iff.mp h
theorem visB_ok {sc : Scope} {x : Str} (h : visB sc x = true) : Vis sc x := by
  unfold visB at h
  split at h
  · exact .inl (by assumption)
  · exact .inr (.inl (by assumption))
  · exact .inr (.inr (by assumption))
  · cases h
theorem locB_ok {sc : Scope} {x : Str} (h : locB sc x = true) : Loc sc x := by
  unfold locB at h
  split at h
  · exact .inl (by assumption)
  · exact .inr (by assumption)
  · cases h
theorem plainN_ok {x : Str} (h : plainN x = true) : (x == ("__debug__" : Str)) = false ∧ (x == ("__classdict__" : Str)) = false := by
  unfold plainN at h
  simpa using h
/-- what stands around: the context of the checker is the context of the machine -/
structure XC0 (C : SC) (X : Cx) : Prop where
  hN : X.N = C.N
  sc : X.env.scope = C.sc
  fn : X.fn = C.fn
  nd : X.N.Nodup
structure XC (C : SC) (X : Cx) : Prop extends XC0 C X where
  calm : X.calm = true
section
variable {X : Cx} {C : SC}
theorem XC0.var (c : XC0 C X) {i : Nat} {x : Str} {p : Pos} (h : nameOk C i x = true) : PE X (.Name x p) (tVar i) := by
  obtain ⟨h1, h2⟩ := ba2 h
  obtain ⟨h2, h3⟩ := ba2 h2
  obtain ⟨h4, h5⟩ := plainN_ok h3
  exact pe_var (by rw [c.hN]; exact of_decide_eq_true h1) (by rw [c.sc]; exact visB_ok h2) h4 h5
theorem XC0.gl (c : XC0 C X) {x : Str} (h : glB C x = true) : Gl X x ∧ (x == ("__debug__" : Str)) = false := by
  obtain ⟨h1, h2⟩ := ba2 h
  refine ⟨?_, (plainN_ok h2).1⟩
  show X.env.scope.names.lookup x = _
  rw [c.sc]; exact of_decide_eq_true h1
theorem XC0.store (c : XC0 C X) {i : Nat} {x : Str} {p : Pos} (h : storeOk C i x = true) : PG X (.Name x p) (gName i) := by
  obtain ⟨h1, h2⟩ := ba2 h
  obtain ⟨h2, h3⟩ := ba2 h2
  refine pg_name c.nd (by rw [c.hN]; exact of_decide_eq_true h1) (by rw [c.sc]; exact locB_ok h2) ?_
  rcases Bool.or_eq_true_iff.mp h3 with h | h
  · exact .inl (by rw [c.fn]; exact h)
  · exact .inr (by rw [c.sc]; exact of_decide_eq_true h)
theorem XC0.ix (c : XC0 C X) {ix : Ix} {e : Expr} (h : ckIx C ix e = true) : PE X e (tIx X.K ix) := by
  unfold ckIx at h
  split at h
  · have e1 := of_decide_eq_true h
    subst e1
    exact pe_imp pe_int fun σ H Q ⟨Gf, N, ts, ρ, hl, hs, n, e, q⟩ => by cases e; exact q
  · have e1 := of_decide_eq_true h
    subst e1
    exact pe_imp (pe_un un_neg pe_int) fun σ H Q ⟨Gf, N, ts, ρ, hl, hs, n, e, q⟩ => by cases e; exact ⟨_, rfl, q⟩
  · exact pe_imp (c.var h) fun σ H Q ⟨Gf, N, ts, ρ, hl, hs, n, e, q⟩ => ⟨_, hs.slotI hl e, q⟩
  · obtain ⟨h1, h2⟩ := ba2 h
    have e1 := of_decide_eq_true h1
    subst e1
    refine pe_imp (pe_op op_add pe_int (c.var h2)) fun σ H Q ⟨Gf, N, ts, ρ, hl, hs, n, e, q⟩ => ?_
    obtain ⟨k, e2, rfl⟩ := mpd e
    exact ⟨_, hs.slotI hl e2, _, _, rfl, rfl, q⟩
  · cases h
theorem star_no {e : Expr} {es : List Expr} {env : PySem.Env} (h : noStar e = true) : starEach (e :: es) env = (false, eval e env) :: starEach es env := by
  cases e <;> first | rfl | cases h
theorem any_no : ∀ {es : List Expr} {env : PySem.Env} {pos : Pos}, es.all noStar = true → (backTo pos (starEach es env)).any (·.1) = false
  | [], _, _, _ => rfl
  | e :: es, env, pos, h => by
    rw [List.all_cons, Bool.and_eq_true] at h
    rw [star_no h.1]
    show (false || _) = false
    rw [Bool.false_or]
    exact any_no h.2
theorem all_no : ∀ {es : List Expr} {env : PySem.Env} {pos : Pos}, es.all noStar = true → (backTo pos (starEach es env)).all (fun x => !x.1) = true
  | [], _, _, _ => rfl
  | e :: es, env, pos, h => by
    rw [List.all_cons, Bool.and_eq_true] at h
    rw [star_no h.1]
    show (true && _) = true
    rw [Bool.true_and]
    exact all_no h.2
theorem plainIx_of {b : Expr} (h : notSlice b = true) : PlainIx b := by
  intro o i
  cases b <;> first | rfl | cases h
theorem XC0.pl (c : XC0 C X) : ∀ {p : Pl} {e : Expr}, ckPl C p e = true → PE X e (tPl X.K p)
  | .nm i, e, h => by
    cases e <;> simp only [ckPl, Bool.false_eq_true] at h
    exact pe_nm (c.var h)
  | .sub p ix, e, h => by
    cases e <;> simp only [ckPl, Bool.false_eq_true] at h
    obtain ⟨h1, h2⟩ := ba2 h
    obtain ⟨h2, h3⟩ := ba2 h2
    exact pe_subP (c.pl h2) (c.ix h3) (plainIx_of h1)
theorem base_of {o : Expr} {m : Str} {env : PySem.Env} (h : notCall o = true) : attributeBase o m env (eval o env) = eval o env := by
  cases o <;> first | rfl | cases h
theorem nomark_of {op : CmpOp} {r : Expr} (h : notSet r = true) : behindInMarks op r = false := by
  cases r <;> first | rfl | cases h
theorem folded_of {e : Expr} (h : notSet e = true) : ∀ (env : PySem.Env) (x : Value), foldedSetIterable e env x = pure x := by
  intro env x
  cases e <;> first | rfl | cases h
theorem swaps_of {e : Expr} {t : Option Expr} {l : Nat} {env : PySem.Env} (h : notComp e = true) : swapsWith e t l env = pure false := by
  cases e <;> first | rfl | cases h
theorem mth_eq {o : Expr} {m : Str} {apos pos : Pos} {env : PySem.Env} {args : List Expr} (hb : attributeBase o m env (eval o env) = eval o env) (ha : args.all noStar = true) (hn : args.length < 30) (hl : (apos.endLine == pos.line) = true) :
    eval (.Call (.Attribute o m apos) args [] pos) env = (do
      let ov ← eval o env
      standAt apos.atName
      let (f, first) ← holding [ov] (getMethod ov m (plainOf o env))
      callWith pos f first (backTo pos (starEach args env)) (backToKw pos (keywordEach [] env))) := by
  have hf : methodCallForm (args.length + ([] : List Keyword).length) (backTo pos (starEach args env)) (backToKw pos (keywordEach [] env)) = true := by
    unfold methodCallForm
    rw [all_no ha]
    show (true && (true && decide (args.length + 0 + 0 < 30))) = true
    rw [Bool.true_and, Bool.true_and]
    exact decide_eq_true hn
  show (do
    let ov ← attributeBase o m env (eval o env)
    standAt apos.atName
    methodCall o m apos pos env ov (args.length + ([] : List Keyword).length) (backTo pos (starEach args env)) (backToKw pos (keywordEach [] env))) = _
  rw [hb]
  congr 1
  funext ov
  congr 1
  funext _
  exact mcall_line hf hl
end
end FL

/-! F14: what is checked is so: expressions. -/
namespace FL
open PySem PySem.Spec PyProof.Rows L2 StX
def intV : V → Option Bool
  | .int _ => some true
  | .bl _ => some false
  | .str _ => some false
  | .non => some false
  | _ => none
/-- what a body knows of the program: the defs it may call keep their promises -/
structure XP (T : Tab) (Φ : Fs × Fx) (k : Nat) (X : Cx) : Prop where
  room : Room (k + 1) X.A
  cls : ClsOk X.K T.cs
  fns : ∀ (f : Nat) (fn : Fn), T.fns[f]? = some fn → ∃ fd, FnOk X.prog X.w X.K X.mg X.base (L2N.CX X.prog X.w) k (He.fAd X.K fn.at_) fd fn.ps (spOf X.K fn.ps.length (Φ.1 f) (Φ.2 f)) ∧ Binds X.K fd fn.ps [] ∧ PySem.W.keepIn X.K (.ref (He.fAd X.K fn.at_)) = true
  fin : ∀ (f : Nat) (fn : Fn), T.fns[f]? = some fn → PySem.W.fnIn X.K (He.fAd X.K fn.at_) = true
  ar : ∀ f ds r, Φ.1 f ds = some r → ∃ fn : Fn, T.fns[f]? = some fn ∧ ds.length = fn.ps.length
  arX : ∀ f ds r, Φ.2 f ds = some r → ∃ fn : Fn, T.fns[f]? = some fn ∧ ds.length = fn.ps.length
  glo : ∀ (f : Nat) (fn : Fn), T.fns[f]? = some fn → fn.at_.2 = none → X.mg fn.at_.1 = some (.ref (He.ga X.K fn.at_.1))
  mth : ∀ (c m : Str) (f : Nat), ((c, m), f) ∈ T.ms → ∃ fn : Fn, T.fns[f]? = some fn ∧ fn.at_ = (c, some m) ∧ Meth X.K (He.ga X.K c) m (He.ma X.K (He.ga X.K c) m) ∧ Cls X.K (He.ga X.K c)
  mak : ∀ (f : Nat) (fn : Fn) (c : Str), T.fns[f]? = some fn → fn.at_ = (c, some ("__init__" : Str)) → Mk X.K (He.ga X.K c) (He.ma X.K (He.ga X.K c) "__init__") ∧ X.mg c = some (.ref (He.ga X.K c))
  xg : ∀ q ∈ T.xt, X.mg q.1 = some (.ref (He.ga X.K q.1)) ∧ FX.XFacts X.K (He.ga X.K q.1)
  x0 : ∀ q ∈ T.xt, (∀ r ∈ T.xi, r.1 ≠ q.1) → PySem.W.excIn X.K (He.ga X.K q.1) He.veBase "ValueError.__new__" = true ∧ PySem.W.keepIn X.K (.ref (He.ga X.K q.1)) = true ∧ Raises X (.ref (He.ga X.K q.1))
  x1 : ∀ q ∈ T.xi, X.mg q.1 = some (.ref (He.ga X.K q.1)) ∧ OexC X.K (He.ga X.K q.1) ∧ ∃ fI fd ps, PySem.W.findIn X.K (.ref (He.ga X.K q.1)) "__init__" = some (some (.ref fI)) ∧ PySem.W.typeIn X.K (.ref fI) = some (.type "function") ∧ Binds X.K fd ps [] ∧ FnOk X.prog X.w X.K X.mg X.base (L2N.CX X.prog X.w) k fI fd ps (FX.spXI (He.ga X.K q.1) q.2)
  xe : ∀ q ∈ T.xt, ∀ r ∈ T.xt, PySem.W.exmOne X.K (.ref (He.ga X.K q.1)) (.ref (He.ga X.K r.1)) = some (q.2.contains r.1)
  xk : ∀ q ∈ T.xt, (∀ r ∈ T.xt, PySem.W.kitOne X.K (.ref (He.ga X.K q.1)) (.ref (He.ga X.K r.1)) = some (q.2.contains r.1)) ∧ PySem.W.kitOne X.K (.ref (He.ga X.K q.1)) (.type "ValueError") = some (q.2.contains ("ValueError" : Str))
  xn : ∀ q ∈ T.xt, ∀ r ∈ T.xi, PySem.W.findIn X.K (.ref (He.ga X.K q.1)) r.2 = some none
  xv : X.mg "ValueError" = none
  oc : ∀ c ∈ T.oc, X.mg c = some (.ref (He.ga X.K c)) ∧ OcOk X.K (He.ga X.K c)
  eqc : ∀ c f, ((c, Str.ofString "__eq__"), f) ∈ T.ms → c ∈ T.oc
  free : ∀ x ∈ (["len", "int", "list", "tuple", "sum", "abs", "min", "max", "all", "any", "range", "zip", "enumerate", "isinstance", "bool", "str", "dict"] : List Str), X.mg x = none
theorem XP.blk {T : Tab} {Φ : Fs × Fx} {k : Nat} {X : Cx} (p : XP T Φ k X) (s : Shared) (H : Hp) (scope : Scope) (cenv : PySem.Env) (fp : List Addr) : XP T Φ k (X.blk s H scope cenv fp) := ⟨p.room, p.cls, p.fns, p.fin, p.ar, p.arX, p.glo, p.mth, p.mak, p.xg, p.x0, p.x1, p.xe, p.xk, p.xn, p.xv, p.oc, p.eqc, p.free⟩
theorem XC.blk {C : SC} {X : Cx} (c : XC C X) (s : Shared) (H : Hp) (scope : Scope) (D : Addr) (cl : List (Str × Addr)) (fp : List Addr) : XC (blkSC C scope) (X.blk s H scope (compEnvC scope cl D X.env) fp) :=
  ⟨⟨c.hN, by show relS scope X.env.scope = relS scope C.sc; rw [c.sc], rfl, c.nd⟩, c.calm⟩
def arOf (T : Tab) (f : Nat) : Nat := ((T.fns[f]?).map fun fn => fn.ps.length).getD 0
theorem XP.arity {T : Tab} {Φ : Fs × Fx} {k : Nat} {X : Cx} (p : XP T Φ k X) {f : Nat} {ds : List D} {r : D × List (Option D)} (h : Φ.1 f ds = some r) : ds.length = arOf T f := by
  obtain ⟨fn, e1, e2⟩ := p.ar f ds r h
  unfold arOf
  rw [e1]; exact e2
theorem XP.arityX {T : Tab} {Φ : Fs × Fx} {k : Nat} {X : Cx} (p : XP T Φ k X) {f : Nat} {ds : List D} {r : Exn × List (Option D)} (h : Φ.2 f ds = some r) : ds.length = arOf T f := by
  obtain ⟨fn, e1, e2⟩ := p.arX f ds r h
  unfold arOf
  rw [e1]; exact e2
theorem XP.hu {T : Tab} {Φ : Fs × Fx} {k : Nat} {X : Cx} (p : XP T Φ k X) : X.A.units + 65 < cLine := by have := p.room.un; omega
theorem noStar_of {T : Tab} {C : SC} {a : A} {e : Expr} (h : ckA T C a e = true) : noStar e = true := by
  cases a with
  | val x => simp only [ckA] at h; exact (ba2 h).1
  | ref i =>
    simp only [ckA] at h
    split at h
    · rfl
    · cases h
theorem ckAs_all {T : Tab} {C : SC} : ∀ {as : As} {es : List Expr}, ckAs T C as es = true → es.all noStar = true
  | .nil, [], _ => rfl
  | .nil, _ :: _, h => by simp [ckAs] at h
  | .cons _ _, [], h => by simp [ckAs] at h
  | .cons a as, e :: es, h => by
    simp only [ckAs] at h
    obtain ⟨h1, h2⟩ := ba2 h
    rw [List.all_cons, noStar_of h1, ckAs_all (as := as) h2]; rfl
theorem ckPs_all {T : Tab} {C : SC} : ∀ {as : Es} {es : List Expr}, ckPs T C as es = true → es.all noStar = true
  | .nil, [], _ => rfl
  | .nil, _ :: _, h => by simp [ckPs] at h
  | .star _ _, _, h => by simp [ckPs] at h
  | .cons _ _, [], h => by simp [ckPs] at h
  | .cons a as, e :: es, h => by
    simp only [ckPs] at h
    obtain ⟨h1, h2⟩ := ba2 h
    obtain ⟨h2, h3⟩ := ba2 h2
    rw [List.all_cons, h1, ckPs_all (as := as) h3]; rfl
/-- PX and, as a test, PXT -/
structure PXB2 (X : Cx) (e : Expr) (ev : Env → Option (D × Env)) : Prop where
  px : PX X e ev
  pxt : PXT X e (asT ev)
theorem PXB2.cg {X : Cx} {e : Expr} {ev ev' : Env → Option (D × Env)} (h : PXB2 X e ev) (f : ∀ ρ, ev' ρ = ev ρ) : PXB2 X e ev' := by
  have : ev' = ev := funext f
  rw [this]; exact h
/-- an expression that is tested by its value -/
theorem both_val {X : Cx} {e : Expr} {ev : Env → Option (D × Env)} (h : PX X e ev) (he : ∀ whole, isTrue e X.env whole = (do let v ← whole; standAt e.pos; holding [v] (truthy v)) := by intro _; rfl) : PXB2 X e ev :=
  ⟨h, ⟨pt_imp (pt_val h.pe he) fun σ H Q q => tIT_of q, Ln.asT h.ln⟩⟩
theorem pgs_of {C : SC} {X : Cx} (c : XC C X) : ∀ {is : List Nat} {es : List Expr}, ckNames C is es = true → PGs X es (gNames is) ∧ (assignEach es X.env).length = is.length ∧ (assignEach es X.env).findIdx? (·.1) = none
  | [], [], _ => ⟨pgs_nil, rfl, rfl⟩
  | [], _ :: _, h => by simp [ckNames] at h
  | _ :: _, [], h => by simp [ckNames] at h
  | i :: is, e :: es, h => by
    cases e <;> simp only [ckNames, Bool.false_eq_true] at h
    rename_i x p
    obtain ⟨h1, h2⟩ := ba2 h
    obtain ⟨p1, p2, p3⟩ := pgs_of c h2
    refine ⟨pgs_cons (c.store h1) p1, ?_, ?_⟩
    · show (assignEach es X.env).length + 1 = _
      rw [p2]; rfl
    · show List.findIdx? _ ((false, _) :: assignEach es X.env) = none
      rw [List.findIdx?_cons]
      simp [p3]
theorem pg_of {C : SC} {X : Cx} (c : XC C X) {t : Tg} {e : Expr} (h : ckTg C t e = true) : PG X e (gT X.K t) := by
  cases t with
  | name i =>
    cases e <;> simp only [ckTg, Bool.false_eq_true] at h
    exact c.store h
  | names is =>
    cases e <;> simp only [ckTg, Bool.false_eq_true] at h
    obtain ⟨p1, p2, p3⟩ := pgs_of c h
    have g1 := pg_tup (pos := ‹Pos›) (k := ‹Nat›) c.calm p1 p2 p3
    have g2 := pg_unl (pos := ‹Pos›) (k := ‹Nat›) c.calm p1 p2 p3
    exact ⟨fun pins s σ H v u Q I r hw => hw.elim (fun z => g1.run pins s σ H v u Q I r z) fun z => g2.run pins s σ H v u Q I r z⟩
section
variable {T : Tab} {Φ : Fs × Fx} {k : Nat}
/-- what a checked comprehension consists of -/
structure CompOk (X : Cx) (elt : Env → Option (D × Env)) (t : Tg) (it : Env → Option (List D × Env)) (cond : Env → Option (Bool × Env)) (el tg itr : Expr) (ifs : List Expr) (scope : Scope) (own : List (Str × Nat)) : Prop where
  sl : own.map (·.2) = t.slots
  ok : BlkOk X.N X.env.scope scope own
  i : PXI X tg itr it
  g : ∀ (s : Shared) (H : Hp) (C : Addr) (cl : List (Str × Addr)) (fp : List Addr), PG (X.blk s H scope (compEnvC scope cl C X.env) fp) tg (gT X.K t)
  t : ∀ (s : Shared) (H : Hp) (C : Addr) (cl : List (Str × Addr)) (fp : List Addr), PTs (X.blk s H scope (compEnvC scope cl C X.env) fp) ifs (tIT X.K cond)
  e : ∀ (s : Shared) (H : Hp) (C : Addr) (cl : List (Str × Addr)) (fp : List Addr), PE (X.blk s H scope (compEnvC scope cl C X.env) fp) el (tI X.K elt)
  lt : Ln cond
  le : Ln elt
  st : notSet itr = true
theorem CompOk.px {X : Cx} (hc : X.calm = true) (hN : X.N.Nodup) {elt : Env → Option (D × Env)} {t : Tg} {it : Env → Option (List D × Env)} {cond : Env → Option (Bool × Env)} {el tg itr : Expr} {ifs : List Expr} {scope : Scope} {own : List (Str × Nat)} {pos : Pos} (h : CompOk X elt t it cond el tg itr ifs scope own) :
    PX X (.ListComp el [⟨tg, itr, ifs, 0⟩] scope pos) (compE t it cond elt) := by
  refine ⟨pe_imp (pe_lc (own := own) hc hN h.i.pi h.ok h.g h.t h.e (folded_of h.st X.env)) fun σ H Q q => ?_, compE_ln h.i.ln h.lt h.le⟩
  rw [h.sl]
  exact tI_comp h.i.ln h.lt h.le q
end
end FL

/-! F15: what is checked is so: expressions, all together. -/
namespace FL
open PySem PySem.Spec PyProof.Rows L2 StX
variable {T : Tab} {Φ : Fs × Fx} {k : Nat}
abbrev Gam (T : Tab) (Φ : Fs × Fx) : Ctx := ⟨Φ.1, Φ.2, T.cs, T.ms, T.xt⟩
theorem tArg_nil {K : PySem.W.Frag} {σ : L2.St} {H : Hp} {Q : List V → Hp → Prop} (h : tArg K .nil (fun ρ => some ([], ρ)) σ H Q) : tNil σ H Q := by
  obtain ⟨Gf, N, ts, ρ, hl, hs, p, e, q⟩ := h
  cases e
  exact q [] _ trivial hs
def NilOk (es : List Expr) (as : As) (er : Env → Option (List (Option D) × Env)) : Prop := es = [] → as = .nil ∧ er = fun ρ => some ([], ρ)
theorem passN {X : Cx} : Passes (L2N.CX X.prog X.w) X E0 := fun _ _ _ _ _ _ _ h => by
  obtain ⟨_, _, _, _, _, _, _, _, _, _, _, _, z⟩ := h
  exact z.elim
theorem call_fn {X : Cx} {C : SC} (p : XP T Φ k X) (c : XC C X) {f : Nat} {x : Str} {es : List Expr} {as : As} {er : Env → Option (List (Option D) × Env)} {q pos : Pos} (hf : (T.fns[f]?).map (·.at_) = some (x, none)) (hg : glB C x = true) (hs : es.all noStar = true) (ha : PXG X es as er) (hn0 : NilOk es as er) :
    PX X (.Call (.Name x q) es [] pos) (callE (Φ.1 f) as er) := by
  obtain ⟨fn, e1, e2⟩ := mpd hf
  obtain ⟨fd, F, B, kp⟩ := p.fns f fn e1
  have ea : He.fAd X.K fn.at_ = He.ga X.K x := by rw [e2]; rfl
  rw [ea] at F kp
  have hm := p.glo f fn e1 (by rw [e2])
  rw [e2] at hm
  have hm : X.mg x = some (.ref (He.ga X.K x)) := hm
  obtain ⟨g1, g2⟩ := c.gl hg
  have hn : ∀ ds r, Φ.1 f ds = some r → ds.length = fn.ps.length := fun ds r h => by
    obtain ⟨fn', e3, e4⟩ := p.ar f ds r h
    rw [e1] at e3; cases e3; exact e4
  have hr : Room k X.A := p.room.mono (Nat.le_succ _)
  cases es with
  | nil =>
    obtain ⟨rfl, rfl⟩ := hn0 rfl
    exact px_callF (ψ := Φ.2 f) (E := E0) hn ha (pe_imp (pe_call0 (E := E0) F hr g1 hm kp B .nil passN g2) fun σ H Q q => tArg_nil q)
  | cons e es =>
    rw [List.all_cons, Bool.and_eq_true] at hs
    exact px_callF (ψ := Φ.2 f) (E := E0) hn ha (pe_call F hr g1 hm kp B .nil passN ha.pa g2 (star_no hs.1) (any_no hs.2))
theorem call_mk {X : Cx} {C : SC} (p : XP T Φ k X) (c : XC C X) {f : Nat} {x : Str} {es : List Expr} {as : As} {er : Env → Option (List (Option D) × Env)} {q pos : Pos} (hf : (T.fns[f]?).map (·.at_) = some (x, some ("__init__" : Str))) (hg : glB C x = true) (hs : es.all noStar = true) (ha : PXG X es as er) (hn0 : NilOk es as er) :
    PX X (.Call (.Name x q) es [] pos) (makeE (Φ.1 f) x as er) := by
  obtain ⟨fn, e1, e2⟩ := mpd hf
  obtain ⟨fd, F, B, kp⟩ := p.fns f fn e1
  obtain ⟨M, hm⟩ := p.mak f fn x e1 e2
  have ea : He.fAd X.K fn.at_ = He.ma X.K (He.ga X.K x) "__init__" := by rw [e2]; rfl
  rw [ea] at F
  obtain ⟨g1, g2⟩ := c.gl hg
  have hn : ∀ ds r, Φ.1 f ds = some r → ds.length = fn.ps.length := fun ds r h => by
    obtain ⟨fn', e3, e4⟩ := p.ar f ds r h
    rw [e1] at e3; cases e3; exact e4
  cases es with
  | nil =>
    obtain ⟨rfl, rfl⟩ := hn0 rfl
    exact px_make (ψ := Φ.2 f) (E := E0) hn ha (pe_imp (pe_make0 (E := E0) M F p.room g1 hm B .nil passN g2) fun σ H Q q => tArg_nil q)
  | cons e es =>
    rw [List.all_cons, Bool.and_eq_true] at hs
    exact px_make (ψ := Φ.2 f) (E := E0) hn ha (pe_make M F p.room g1 hm B .nil passN ha.pa g2 (star_no hs.1) (any_no hs.2))
theorem call_mt {X : Cx} {C : SC} (p : XP T Φ k X) (c : XC C X) {m : Str} {oe : Expr} {o : A} {ex : Env → Option (Option D × Env)} {es : List Expr} {as : As} {er : Env → Option (List (Option D) × Env)} {ap pos : Pos} (hb : notCall oe = true) (hl : (ap.endLine == pos.line) = true) (h30 : es.length < 30) (hs : es.all noStar = true)
    (ho : PX1 X oe o ex) (ha : PXG X es as er) (hn0 : NilOk es as er) : PX X (.Call (.Attribute oe m ap) es [] pos) (methE Φ.1 T.ms m o as ex er) := by
  refine px_meth (Ψ := Φ.2) (E := E0) (ar := arOf T) (fun f ds r h => p.arity h) ho ha fun cl f hmem => ?_
  obtain ⟨fn, e1, e2, M, Cl⟩ := p.mth cl m f hmem
  obtain ⟨fd, F, B, kp⟩ := p.fns f fn e1
  have ea : He.fAd X.K fn.at_ = He.ma X.K (He.ga X.K cl) m := by rw [e2]; rfl
  rw [ea] at F
  have en : fn.ps.length = arOf T f := by unfold arOf; rw [e1]; rfl
  rw [en] at F
  have hr : Room k X.A := p.room.mono (Nat.le_succ _)
  cases es with
  | nil =>
    obtain ⟨rfl, rfl⟩ := hn0 rfl
    refine pe_imp (pe_meth0 (E := E0) (pl := plainOf oe X.env) ho.pe Cl M F hr B .nil passN (mth_eq (base_of hb) rfl h30 hl)) fun σ H Q q => ?_
    obtain ⟨Gf, N, ts, ρ, hl, hs, p, e, q⟩ := q
    refine ⟨Gf, N, ts, ρ, hl, hs, p, e, fun v H' r h' => ?_⟩
    obtain ⟨a, dx, fs, z1, z2, z3, z4⟩ := q v H' r h'
    exact ⟨a, dx, fs, z1, z2, z3, tArg_nil z4⟩
  | cons e es =>
    have hs' := hs
    rw [List.all_cons, Bool.and_eq_true] at hs
    exact pe_meth (E := E0) (pl := plainOf oe X.env) ho.pe Cl M F hr B .nil passN ha.pa (star_no hs.1) (any_no hs.2) (mth_eq (base_of hb) hs' h30 hl)
theorem subsc_of {r : Expr} (h : notSlice r = true) : ∀ (x : Addr) (i : Value), subscripted r true (.ref x) i = runValue (.builtin "lifetime.subscript" ⟨[.ref x, i], []⟩) := fun x i => by
  cases r <;> first | rfl | cases h
theorem gti_pe {X : Cx} {E : L2.St → XK} (p : XP T Φ k X) (hx : ∀ σ, PassesAt (L2N.CX X.prog X.w) X σ (E σ)) {a b : Expr} {ta tb : TE} {pos : Pos} (hs : notSlice b = true) (ha : PE X a ta) (hb : PE X b tb) (c : Str) (f : Nat) (mem : ((c, Str.ofString "__getitem__"), f) ∈ T.ms) :
    PE X (.Subscript a b pos) (FX.tGti (He.ga X.K c) (spOf X.K (arOf T f) (Φ.1 f) (Φ.2 f)) E ta tb) := by
  obtain ⟨fn, e1, e2, M, Cl⟩ := p.mth c _ f mem
  obtain ⟨fd, F, B, kp⟩ := p.fns f fn e1
  have hf := p.fin f fn e1
  have ea : He.fAd X.K fn.at_ = He.ma X.K (He.ga X.K c) (Str.ofString "__getitem__") := by rw [e2]; rfl
  rw [ea] at F hf
  have en : fn.ps.length = arOf T f := by unfold arOf; rw [e1]; rfl
  rw [en] at F
  exact FX.pe_gti ha hb M hf F p.room B hx (subsc_of hs)
theorem passN' {X : Cx} : ∀ σ : L2.St, PassesAt (L2N.CX X.prog X.w) X σ (fun _ _ _ => False) := fun _ _ _ _ _ _ _ h => by
  obtain ⟨_, _, _, _, _, _, _, _, _, _, _, _, z⟩ := h
  exact z.elim
theorem oeq_op {X : Cx} (p : XP T Φ k X) (c : Str) (f : Nat) (mem : ((c, Str.ofString "__eq__"), f) ∈ T.ms) : OpR X (compareOp .Eq) (FX.rOeq X.K (He.ga X.K c) (spOf X.K (arOf T f) (Φ.1 f) (Φ.2 f)) (fun _ _ _ => False)) := by
  obtain ⟨fn, e1, e2, M, Cl⟩ := p.mth c _ f mem
  obtain ⟨fd, F, B, kp⟩ := p.fns f fn e1
  have ea : He.fAd X.K fn.at_ = He.ma X.K (He.ga X.K c) (Str.ofString "__eq__") := by rw [e2]; rfl
  rw [ea] at F
  have en : fn.ps.length = arOf T f := by unfold arOf; rw [e1]; rfl
  rw [en] at F
  exact FX.opr_oeq M (p.oc c (p.eqc c f mem)).2.su F (p.room.mono (Nat.le_succ _)) B passN
theorem free_blt {X : Cx} (p : XP T Φ k X) (b : Blt) : X.mg (bltN b) = none := p.free _ (by cases b <;> decide +kernel)
theorem bltn_ne (b : Blt) : bltN b ≠ "__name__" := by cases b <;> decide +kernel
theorem call_bl {X : Cx} {C : SC} (p : XP T Φ k X) (c : XC C X) {b : Blt} {es : List Expr} {er : Env → Option (List D × Env)} {q pos : Pos} (hg : glB C (bltN b) = true) (hs : es.all noStar = true) (hne : ∀ ρ pr, er ρ = some pr → pr.1 ≠ [] → es ≠ []) (ha : PXA X es er) :
    PX X (.Call (.Name (bltN b) q) es [] pos) (fun ρ => (er ρ).bind fun p => (bltD b p.1).map fun d => (d, p.2)) := by
  obtain ⟨g1, g2⟩ := c.gl hg
  have hv := blt_boot b
  have hm := free_blt p b
  have hne' := bltn_ne b
  cases es with
  | nil =>
    have hno : ∀ ρ pr, er ρ = some pr → bltD b pr.1 = none := fun ρ pr e => by
      have : pr.1 = [] := Classical.byContradiction fun z => hne ρ pr e z rfl
      rw [this]
      cases b <;> rfl
    refine ⟨⟨fun pins s σ H Q I q => ?_⟩, fun ρ p e => ?_⟩
    · obtain ⟨Gf, N, ts, ρ, hl, hs, p, e, q⟩ := q
      obtain ⟨pr, e1, e⟩ := bnd e
      rw [hno _ _ e1] at e
      cases e
    · obtain ⟨pr, e1, e⟩ := bnd e
      rw [hno _ _ e1] at e
      cases e
  | cons e es =>
    rw [List.all_cons, Bool.and_eq_true] at hs
    refine px_call (snd_Bl b) ?_ ha.ln
    have hc := callr_B (X := X) c.calm b
    cases b <;> first
      | exact pe_callB hc g1 hm hv ha.pa hne' g2 (star_no hs.1) (any_no hs.2)
      | exact pe_callTy hc g1 hm hv ha.pa hne' g2 (star_no hs.1) (any_no hs.2)
end FL

/-! F16: what is checked is so: the expressions' theorem. -/
namespace FL
open PySem PySem.Spec PyProof.Rows L2 StX
variable {T : Tab} {Φ : Fs × Fx} {k : Nat}
theorem pts_imp {X : Cx} {es : List Expr} {t t' : TT} (h : PTs X es t) (f : ∀ σ H Q, t' σ H Q → t σ H Q) : PTs X es t' := ⟨fun pins s σ H Q I q => h.run pins s σ H Q I (f σ H Q q)⟩
theorem two_boot (n : String) (h : n ∈ biNames) : (bootBuiltins (Str.ofString n) = some (.type n) ∧ Str.ofString n ∈ (["len", "int", "list", "tuple", "sum", "abs", "min", "max", "all", "any", "range", "zip", "enumerate", "isinstance", "bool", "str", "dict"] : List Str) ∧ Str.ofString n ≠ "__name__") := by
  simp only [biNames, List.mem_cons, List.not_mem_nil, or_false] at h
  rcases h with rfl | rfl | rfl | rfl | rfl | rfl
  all_goals exact ⟨by decide +kernel, by decide +kernel, by decide +kernel⟩
theorem pts_no {X : Cx} : PTs X [] (tIT X.K fun ρ => some (true, ρ)) := pts_imp pts_nil fun σ H Q ⟨Gf, N, ts, ρ, hl, hs, p, e, q⟩ => by cases e; exact q _ hs
mutual
theorem sE : ∀ (a : E) {C : SC} {X : Cx}, XP T Φ k X → XC C X → ∀ {e : Expr}, ckE T C a e = true → PXB2 X e (evE (Gam T Φ) a)
  | .cst c, C, X, p, x, e, h => by
    simp only [ckE] at h
    split at h
    · rename_i kc j pos
      refine both_val (PX.cg (px_cst (k := kc) (c := c) (v := match c with | .non => .non | .bl b => .bl b | .int i => .int i | .str s => .str s) (by cases c <;> constructor) ?_) fun ρ => by simp only [evE])
      cases c <;> cases kc <;> simp only [cstOk, Bool.false_eq_true] at h <;> first
        | exact pe_non
        | (have := of_decide_eq_true h; subst this; exact pe_bl)
        | (have := of_decide_eq_true h; subst this; exact pe_int)
        | (have := of_decide_eq_true h; subst this; exact pe_str)
    · cases h
  | .gti o b, C, X, p, x, e, h => by
    simp only [ckE] at h
    split at h
    · obtain ⟨h1, h2⟩ := ba2 h
      obtain ⟨h2, h3⟩ := ba2 h2
      have ia := sE o p x h2
      have ib := sE b p x h3
      exact both_val (PX.cg (px_gti (Φ := Φ.1) (Ψ := Φ.2) (ar := arOf T) (fun f ds r h => p.arity h) ia.px ib.px fun c f mem => gti_pe p passN' h1 ia.px.pe ib.px.pe c f mem) fun ρ => by simp only [evE])
    · cases h
  | .oeq o b, C, X, p, x, e, h => by
    simp only [ckE] at h
    split at h
    · obtain ⟨h1, h2⟩ := ba2 h
      obtain ⟨h2, h3⟩ := ba2 h2
      obtain ⟨h3, h4⟩ := ba2 h3
      have e1 := of_decide_eq_true h1
      subst e1
      have ia := sE o p x h3
      have ib := sE b p x h4
      exact PXB2.cg ⟨px_oeq (Φ := Φ.1) (Ψ := Φ.2) (ar := arOf T) (fun f ds r h => p.arity h) ia.px.ln ib.px.ln fun c f mem => pe_cmpR (oeq_op p c f mem) ia.px.pe ib.px.pe (nomark_of h2),
        pxt_oeq (Φ := Φ.1) (Ψ := Φ.2) (ar := arOf T) (fun f ds r h => p.arity h) ia.px.ln ib.px.ln fun c f mem => pt_cmpR (oeq_op p c f mem) ia.px.pe ib.px.pe (nomark_of h2)⟩ fun ρ => by simp only [evE]; rfl
    · cases h
  | .lrg a, C, X, p, x, e, h => by
    simp only [ckE] at h
    split at h
    · obtain ⟨h1, r1⟩ := ba2 h
      obtain ⟨h2, r2⟩ := ba2 r1
      obtain ⟨h3, r3⟩ := ba2 r2
      obtain ⟨h4, r4⟩ := ba2 r3
      obtain ⟨h5, h6⟩ := ba2 r4
      clear h r1 r2 r3 r4
      have e1 := of_decide_eq_true h1
      have e2 := of_decide_eq_true h3
      subst e1 e2
      have ia := sE a p x h6
      refine both_val (PX.cg (px_lrg (pe_listRg x.calm (x.gl h2).1 (p.free _ (by decide +kernel)) (prg_1 (x.gl h4).1 (p.free _ (by decide +kernel)) ia.px.pe (star_no h5))) ia.px.ln) fun ρ => by simp only [evE]; rfl)
    · cases h
  | .plc pl, C, X, p, x, e, h => by
    simp only [ckE] at h
    have ip := x.pl h
    cases pl with
    | nm i =>
      cases e <;> simp only [ckPl, Bool.false_eq_true] at h
      exact both_val (PX.cg (px_plc ip) fun ρ => by simp only [evE]; rfl)
    | sub a b =>
      cases e <;> simp only [ckPl, Bool.false_eq_true] at h
      exact both_val (PX.cg (px_plc ip) fun ρ => by simp only [evE]; rfl)
  | .dic0, C, X, p, x, e, h => by
    simp only [ckE] at h
    split at h
    · refine both_val (PX.cg (ev := fun ρ => some (.dic, ρ)) ⟨pe_imp pe_dnewK fun σ H Q ⟨Gf, N, ts, ρ, hl, hs, p, e, q⟩ => ?_, fun ρ p e => by cases e; rfl⟩ fun ρ => by simp only [evE])
      cases e
      exact fun a ha => q _ _ (hs.newDic ha)
    · cases h
  | .var i, C, X, p, x, e, h => by
    simp only [ckE] at h
    split at h
    · exact both_val (PX.cg (px_var (x.var h)) fun ρ => by simp only [evE])
    · cases h
  | .mov i, C, X, p, x, e, h => by
    simp only [ckE] at h
    split at h
    · exact both_val (PX.cg (px_mov (x.var h)) fun ρ => by simp only [evE])
    · cases h
  | .bin op a b, C, X, p, x, e, h => by
    simp only [ckE] at h
    split at h
    · obtain ⟨h1, h2⟩ := ba2 h
      obtain ⟨h2, h3⟩ := ba2 h2
      have e1 := of_decide_eq_true h1
      subst e1
      have ia := sE a p x h2
      have ib := sE b p x h3
      exact both_val (PX.cg (px_op (snd_B op) (pe_op (opr_B op) ia.px.pe ib.px.pe) ia.px.ln ib.px.ln) fun ρ => by simp only [evE])
    · cases h
  | .neg a, C, X, p, x, e, h => by
    simp only [ckE] at h
    split at h
    · obtain ⟨h1, h2⟩ := ba2 h
      have e1 := of_decide_eq_true h1
      subst e1
      have ia := sE a p x h2
      exact both_val (PX.cg (px_neg (pe_un un_neg ia.px.pe) ia.px.ln) fun ρ => by simp only [evE] <;> rfl)
    · cases h
  | .not a, C, X, p, x, e, h => by
    simp only [ckE] at h
    split at h
    · obtain ⟨h1, h2⟩ := ba2 h
      have e1 := of_decide_eq_true h1
      subst e1
      have ia := sE a p x h2
      exact PXB2.cg ⟨px_not (pe_not ia.px.pe) ia.px.ln, pxt_not (pt_not ia.pxt.pt) ia.px.ln⟩ fun ρ => by simp only [evE]; rfl
    · cases h
  | .and es, C, X, p, x, e, h => by
    simp only [ckE] at h
    split at h
    · obtain ⟨h1, h2⟩ := ba2 h
      have e1 := of_decide_eq_true h1
      subst e1
      have i := sAnd es p x h2
      exact PXB2.cg ⟨(i _).px, (i _).pxt⟩ fun ρ => by simp only [evE]
    · cases h
  | .or es, C, X, p, x, e, h => by
    simp only [ckE] at h
    split at h
    · obtain ⟨h1, h2⟩ := ba2 h
      have e1 := of_decide_eq_true h1
      subst e1
      have i := sOr es p x h2
      exact PXB2.cg ⟨(i _).px, (i _).pxt⟩ fun ρ => by simp only [evE]
    · cases h
  | .cmp op a b, C, X, p, x, e, h => by
    simp only [ckE] at h
    split at h
    · obtain ⟨h1, h2⟩ := ba2 h
      obtain ⟨h2, h3⟩ := ba2 h2
      obtain ⟨h3, h4⟩ := ba2 h3
      have e1 := of_decide_eq_true h1
      subst e1
      have ia := sE a p x h3
      have ib := sE b p x h4
      exact PXB2.cg ⟨px_cmp (snd_C op) (pe_cmpR (opr_C p.hu op) ia.px.pe ib.px.pe (nomark_of h2)) ia.px.ln ib.px.ln, pxt_cmp (snd_C op) (pt_cmpR (opr_C p.hu op) ia.px.pe ib.px.pe (nomark_of h2)) ia.px.ln ib.px.ln⟩ fun ρ => by simp only [evE]
    · cases h
  | .chn op op' a b c, C, X, p, x, e, h => by
    simp only [ckE] at h
    split at h
    · rename_i zl zo zo' zm zr zp
      obtain ⟨h1, h2⟩ := ba2 h
      obtain ⟨h2, h3⟩ := ba2 h2
      obtain ⟨h3, h4⟩ := ba2 h3
      obtain ⟨h4, h5⟩ := ba2 h4
      obtain ⟨h5, h6⟩ := ba2 h5
      have e1 := of_decide_eq_true h1
      have e2 := of_decide_eq_true h2
      subst e1 e2
      have ia := sE a p x h4
      have ib := sE b p x h5
      have ic := sE c p x h6
      have hm : lastMarks [astC op, astC op'] [zm, zr] = false := nomark_of h3
      exact PXB2.cg ⟨px_chn (snd_C op) (snd_C op') (pe_chain (opr_C p.hu op) (opr_C p.hu op') ia.px.pe ib.px.pe ic.px.pe hm) ia.px.ln ib.px.ln ic.px.ln, pxt_chn (snd_C op) (snd_C op') (pt_chain (opr_C p.hu op) (opr_C p.hu op') ia.px.pe ib.px.pe ic.px.pe hm) ia.px.ln ib.px.ln ic.px.ln⟩ fun ρ => by simp only [evE]; rfl
    · cases h
  | .ite c a b, C, X, p, x, e, h => by
    simp only [ckE] at h
    split at h
    · obtain ⟨h1, h2⟩ := ba2 h
      obtain ⟨h2, h3⟩ := ba2 h2
      have ic := sE c p x h1
      have ia := sE a p x h2
      have ib := sE b p x h3
      exact PXB2.cg ⟨px_ite ic.pxt ic.px.ln ia.px ib.px, pxt_ite ic.pxt ic.px.ln ia.pxt ib.pxt ia.px.ln ib.px.ln⟩ fun ρ => by simp only [evE]; rfl
    · cases h
  | .shr a, C, X, p, x, e, h => by
    simp only [ckE] at h
    have ia := sE a p x h
    exact PXB2.cg ⟨px_shr ia.px, pxt_shr ia.pxt⟩ fun ρ => by simp only [evE]
  | .bor a, C, X, p, x, e, h => by
    simp only [ckE] at h
    have ia := sE a p x h
    exact PXB2.cg ⟨px_bor ia.px, pxt_bor ia.pxt⟩ fun ρ => by simp only [evE]; rfl
  | .lnv i, C, X, p, x, e, h => by
    simp only [ckE] at h
    split at h
    · obtain ⟨h1, h2⟩ := ba2 h
      obtain ⟨h2, h3⟩ := ba2 h2
      have e1 := of_decide_eq_true h1
      subst e1
      obtain ⟨g1, g2⟩ := x.gl h2
      refine both_val (PX.cg (px_lnv (i := i) ?_) fun ρ => by simp only [evE])
      exact pe_callB (callr_B x.calm .len) g1 (free_blt p .len) (blt_boot .len) (pa_cons (x.var h3) pa_nil rfl) (bltn_ne .len) g2 rfl (by rfl)
    · cases h
  | .lst es, C, X, p, x, e, h => by
    simp only [ckE] at h
    split at h
    · exact both_val (PX.cg (px_lst (sEs es p x h)) fun ρ => by simp only [evE]; rfl)
    · cases h
  | .tup es, C, X, p, x, e, h => by
    simp only [ckE] at h
    split at h
    · exact both_val (PX.cg (px_tup (sEs es p x h)) fun ρ => by simp only [evE]; rfl)
    · cases h
  | .idx a b, C, X, p, x, e, h => by
    simp only [ckE] at h
    split at h
    · obtain ⟨h1, h2⟩ := ba2 h
      obtain ⟨h2, h3⟩ := ba2 h2
      have ia := sE a p x h2
      have ib := sE b p x h3
      exact both_val (PX.cg (px_op snd_X (pe_ix ixr_X ia.px.pe ib.px.pe (plainIx_of h1)) ia.px.ln ib.px.ln) fun ρ => by simp only [evE])
    · cases h
  | .idv i b, C, X, p, x, e, h => by
    simp only [ckE] at h
    split at h
    · obtain ⟨h1, h2⟩ := ba2 h
      obtain ⟨h2, h3⟩ := ba2 h2
      have ib := sE b p x h3
      exact both_val (PX.cg (px_idv (x.var h2) ib.px (plainIx_of h1)) fun ρ => by simp only [evE])
    · cases h
  | .slc a lo hi, C, X, p, x, e, h => by
    simp only [ckE] at h
    split at h
    · obtain ⟨h1, h2⟩ := ba2 h
      obtain ⟨h2, h3⟩ := ba2 h2
      have ia := sE a p x h1
      exact both_val (PX.cg (px_slc ia.px (sO lo p x h2) (sO hi p x h3)) fun ρ => by simp only [evE])
    · cases h
  | .call f as, C, X, p, x, e, h => by
    simp only [ckE] at h
    split at h
    · obtain ⟨h1, h2⟩ := ba2 h
      obtain ⟨h2, h3⟩ := ba2 h2
      obtain ⟨i1, i2⟩ := sAs as p x h3
      exact both_val (PX.cg (call_fn p x (of_decide_eq_true h1) h2 (ckAs_all h3) i1 i2) fun ρ => by simp only [evE]; rfl)
    · cases h
  | .meth m o as, C, X, p, x, e, h => by
    simp only [ckE] at h
    split at h
    · obtain ⟨h1, h2⟩ := ba2 h
      obtain ⟨h2, h3⟩ := ba2 h2
      obtain ⟨h3, h4⟩ := ba2 h3
      obtain ⟨h4, h5⟩ := ba2 h4
      obtain ⟨h5, h6⟩ := ba2 h5
      have e1 := of_decide_eq_true h1
      subst e1
      obtain ⟨i1, i2⟩ := sAs as p x h6
      exact both_val (PX.cg (call_mt p x h2 h3 (of_decide_eq_true h4) (ckAs_all h6) (sA o p x h5) i1 i2) fun ρ => by simp only [evE]; rfl)
    · cases h
  | .make c f as, C, X, p, x, e, h => by
    simp only [ckE] at h
    split at h
    · obtain ⟨h1, h2⟩ := ba2 h
      obtain ⟨h2, h3⟩ := ba2 h2
      obtain ⟨h3, h4⟩ := ba2 h3
      have e1 := of_decide_eq_true h1
      subst e1
      obtain ⟨i1, i2⟩ := sAs as p x h4
      exact both_val (PX.cg (call_mk p x (of_decide_eq_true h2) h3 (ckAs_all h4) i1 i2) fun ρ => by simp only [evE]; rfl)
    · cases h
  | .blt b es, C, X, p, x, e, h => by
    simp only [ckE] at h
    split at h
    · obtain ⟨h1, h2⟩ := ba2 h
      obtain ⟨h2, h3⟩ := ba2 h2
      have e1 := of_decide_eq_true h1
      subst e1
      obtain ⟨i1, i2⟩ := sPs es p x h3
      exact both_val (PX.cg (call_bl p x h2 (ckPs_all h3) i2 i1) fun ρ => by simp only [evE])
    · cases h
  | .isi a t, C, X, p, x, e, h => by
    simp only [ckE] at h
    split at h
    · cases t with
      | own c =>
        simp only at h
        obtain ⟨h1, r1⟩ := ba2 h
        obtain ⟨h2, r2⟩ := ba2 r1
        obtain ⟨h3, r3⟩ := ba2 r2
        obtain ⟨h4, r4⟩ := ba2 r3
        obtain ⟨h5, r5⟩ := ba2 r4
        obtain ⟨h6, h7⟩ := ba2 r5
        clear h r1 r2 r3 r4 r5
        have e1 := of_decide_eq_true h1
        have e2 := of_decide_eq_true h2
        subst e1 e2
        have ia := sE a p x h7
        obtain ⟨g1, g2⟩ := x.gl h4
        obtain ⟨g3, g4⟩ := x.gl h5
        obtain ⟨o1, o2⟩ := p.oc _ (by simpa using h3)
        refine both_val (PX.cg (px_isO o2 ?_ ia.px.ln) fun ρ => by simp only [evE])
        exact pe_callB call_isi g1 (p.free _ (by decide +kernel)) (by decide +kernel) (pa_cons ia.px.pe (pa_cons (pe_glob g3 o1 rfl g4) pa_nil) (star_no h6)) (by decide +kernel) g2 (star_no h6) (by rfl)
      | bi n =>
        simp only at h
        obtain ⟨h1, r1⟩ := ba2 h
        obtain ⟨h2, r2⟩ := ba2 r1
        obtain ⟨h3, r3⟩ := ba2 r2
        obtain ⟨h4, r4⟩ := ba2 r3
        obtain ⟨h5, r5⟩ := ba2 r4
        obtain ⟨h6, h7⟩ := ba2 r5
        clear h r1 r2 r3 r4 r5
        have e1 := of_decide_eq_true h1
        have e2 := of_decide_eq_true h2
        subst e1 e2
        have ia := sE a p x h7
        have hn : n ∈ biNames := by simpa using h3
        obtain ⟨g1, g2⟩ := x.gl h4
        obtain ⟨g3, g4⟩ := x.gl h5
        refine both_val (PX.cg (px_isi hn ?_ ia.px.ln) fun ρ => by simp only [evE])
        obtain ⟨b1, b2, b3⟩ := two_boot n hn
        exact pe_callB call_isi g1 (p.free _ (by decide +kernel)) (by decide +kernel) (pa_cons ia.px.pe (pa_cons (pe_bltn g3 (p.free _ b2) b1 rfl b3 g4) pa_nil) (star_no h6)) (by decide +kernel) g2 (star_no h6) (by rfl)
    · cases h
  | .fld a f, C, X, p, x, e, h => by
    simp only [ckE] at h
    split at h
    · obtain ⟨h1, h2⟩ := ba2 h
      obtain ⟨h2, h3⟩ := ba2 h2
      have e1 := of_decide_eq_true h1
      subst e1
      have ia := sE a p x h3
      exact both_val (PX.cg (px_fld p.cls ia.px (base_of h2)) fun ρ => by simp only [evE])
    · cases h
  | .flv i f, C, X, p, x, e, h => by
    simp only [ckE] at h
    split at h
    · obtain ⟨h1, h2⟩ := ba2 h
      have e1 := of_decide_eq_true h1
      subst e1
      exact both_val (PX.cg (px_flv p.cls (x.var h2) (by rfl)) fun ρ => by simp only [evE])
    · cases h
  | .comp2 elt t1 it1 t2 it2 cond, C, X, p, x, e, h => by
    simp only [ckE] at h
    split at h
    · rename_i el tg itr as tg1 itr1 ifs1 as1 scope pos
      obtain ⟨h1, r⟩ := ba2 h
      obtain ⟨h2, r⟩ := ba2 r
      obtain ⟨h3, r⟩ := ba2 r
      obtain ⟨h4, r⟩ := ba2 r
      obtain ⟨h5, r⟩ := ba2 r
      obtain ⟨h6, r⟩ := ba2 r
      obtain ⟨h7, r⟩ := ba2 r
      obtain ⟨h8, r⟩ := ba2 r
      obtain ⟨h9, r⟩ := ba2 r
      obtain ⟨h10, r⟩ := ba2 r
      obtain ⟨h11, h12⟩ := ba2 r
      have e1 := of_decide_eq_true h1
      have e2 := of_decide_eq_true h2
      subst e1 e2
      have sl := of_decide_eq_true h6
      have i1 := sI it1 p x h7
      have lli := (sI it2 (p.blk X.s_0 X.H_0 scope _ []) (x.blk X.s_0 X.H_0 scope 0 [] []) h9).ln
      have llc := (sC cond (p.blk X.s_0 X.H_0 scope _ []) (x.blk X.s_0 X.H_0 scope 0 [] []) h11).2
      have lle := (sE elt (p.blk X.s_0 X.H_0 scope _ []) (x.blk X.s_0 X.H_0 scope 0 [] []) h12).px.ln
      have key := pe_lc2 (elt := el) (tg := tg) (iter := itr) (tg1 := tg1) (iter1 := itr1) (ifs := []) (ifs1 := ifs1) (scope := scope) (wi := tIt X.K (evIt (Gam T Φ) it1)) (wi1 := tIt X.K (evIt (Gam T Φ) it2)) (g := gT X.K t1) (g1 := gT X.K t2) (tt := tIT X.K fun ρ => some (true, ρ)) (tt1 := tIT X.K (evC (Gam T Φ) cond)) (te := tI X.K (evE (Gam T Φ) elt)) (own := ownOf2 C t1 t2) (vs1 := t2.slots) (pos := pos) x.calm x.nd i1.pi (by rw [x.hN, x.sc]; exact blkOk_by h5) (fun i hi => by rw [sl]; exact List.mem_append_right _ hi)
        (fun s H D cl fp => pg_of (x.blk s H scope D cl fp) h8) (fun s H D cl fp => pts_no)
        (fun s H D cl fp => (sI it2 (p.blk s H scope _ fp) (x.blk s H scope D cl fp) h9).pi) (fun s H D cl fp => pg_of (x.blk s H scope D cl fp) h10)
        (fun s H D cl fp => (sC cond (p.blk s H scope _ fp) (x.blk s H scope D cl fp) h11).1) (fun s H D cl fp => (sE elt (p.blk s H scope _ fp) (x.blk s H scope D cl fp) h12).px.pe) (folded_of h3 X.env) (folded_of h4)
      refine both_val (PX.cg (ev := compE2 t1 t2 (evIt (Gam T Φ) it1) (evIt (Gam T Φ) it2) (evC (Gam T Φ) cond) (evE (Gam T Φ) elt)) ⟨pe_imp key fun σ H Q q => ?_, compE2_ln i1.ln lli llc lle⟩ fun ρ => by simp only [evE]; rfl)
      rw [sl]
      exact tI_comp2 i1.ln lli llc lle q
    · cases h
  | .comp elt t it cond, C, X, p, x, e, h => by
    simp only [ckE] at h
    split at h
    · rename_i el tg itr ifs as scope pos
      obtain ⟨h1, h2⟩ := ba2 h
      obtain ⟨h2, h3⟩ := ba2 h2
      obtain ⟨h3, h4⟩ := ba2 h3
      obtain ⟨h4, h5⟩ := ba2 h4
      obtain ⟨h5, h6⟩ := ba2 h5
      obtain ⟨h6, h7⟩ := ba2 h6
      obtain ⟨h7, h8⟩ := ba2 h7
      have e1 := of_decide_eq_true h1
      subst e1
      have q : CompOk X (evE (Gam T Φ) elt) t (evIt (Gam T Φ) it) (evC (Gam T Φ) cond) el tg itr ifs scope (ownOf C t) :=
        ⟨of_decide_eq_true h4, by rw [x.hN, x.sc]; exact blkOk_by h3, sI it p x h5, fun s H D cl fp => pg_of (x.blk s H scope D cl fp) h6,
          fun s H D cl fp => (sC cond (p.blk s H scope _ fp) (x.blk s H scope D cl fp) h7).1, fun s H D cl fp => (sE elt (p.blk s H scope _ fp) (x.blk s H scope D cl fp) h8).px.pe, (sC cond (p.blk X.s_0 X.H_0 scope _ []) (x.blk X.s_0 X.H_0 scope 0 [] []) h7).2, (sE elt (p.blk X.s_0 X.H_0 scope _ []) (x.blk X.s_0 X.H_0 scope 0 [] []) h8).px.ln, h2⟩
      exact both_val (PX.cg (q.px x.calm x.nd) fun ρ => by simp only [evE]; rfl)
    · cases h
theorem sO : ∀ (a : OE) {C : SC} {X : Cx}, XP T Φ k X → XC C X → ∀ {e : Option Expr}, ckO T C a e = true → PXO X e (evO (Gam T Φ) a)
  | .no, C, X, p, x, e, h => by
    simp only [ckO] at h
    split at h
    · have : evO (Gam T Φ) .no = fun ρ => some (none, ρ) := by funext ρ; simp only [evO]
      rw [this]; exact pxo_no
    · cases h
  | .yes a, C, X, p, x, e, h => by
    simp only [ckO] at h
    split at h
    · have ia := sE a p x h
      have : evO (Gam T Φ) (.yes a) = someE (evE (Gam T Φ) a) := by funext ρ; simp only [evO]; rfl
      rw [this]; exact pxo_yes ia.px (po_some ia.px.pe)
    · cases h
theorem sC : ∀ (a : OE) {C : SC} {X : Cx}, XP T Φ k X → XC C X → ∀ {e : List Expr}, ckCs T C a e = true → PTs X e (tIT X.K (evC (Gam T Φ) a)) ∧ Ln (evC (Gam T Φ) a)
  | .no, C, X, p, x, e, h => by
    simp only [ckCs] at h
    split at h
    · have : evC (Gam T Φ) .no = fun ρ => some (true, ρ) := by funext ρ; simp only [evC]
      rw [this]
      exact ⟨pts_imp pts_nil fun σ H Q ⟨Gf, N, ts, ρ, hl, hs, p, e, q⟩ => by cases e; exact q _ hs, fun ρ p e => by cases e; rfl⟩
    · cases h
  | .yes a, C, X, p, x, e, h => by
    simp only [ckCs] at h
    split at h
    · have ia := sE a p x h
      have : evC (Gam T Φ) (.yes a) = asT (evE (Gam T Φ) a) := by funext ρ; simp only [evC]; rfl
      rw [this]
      exact ⟨pts_one ia.pxt.pt, ia.pxt.ln⟩
    · cases h
theorem sAnd : ∀ (es : Es) {C : SC} {X : Cx}, XP T Φ k X → XC C X → ∀ {xs : List Expr}, ckBs T C es xs = true → ∀ pos : Pos, PXB X (.BoolOp .And xs pos) (evAnd (Gam T Φ) es)
  | .nil, C, X, p, x, xs, h, pos => by simp [ckBs] at h
  | .star _ _, C, X, p, x, xs, h, pos => by simp [ckBs] at h
  | .cons a es, C, X, p, x, xs, h, pos => by
    simp only [ckBs] at h
    split at h
    · obtain ⟨h1, h2⟩ := ba2 h
      cases es with
      | nil =>
        have ia := sE a p x h2
        have : evAnd (Gam T Φ) (.cons a .nil) = asT (evE (Gam T Φ) a) := by funext ρ; simp only [evAnd]; rfl
        rw [this]; exact pxb_and1 ia.px ia.pxt
      | cons _ _ => cases h1
      | star _ _ => cases h1
    · rename_i z y r
      obtain ⟨h1, h2⟩ := ba2 h
      have ia := sE a p x h1
      have ib := sAnd es p x h2 pos
      cases es with
      | nil => simp [ckBs] at h2
      | star _ _ => simp [ckBs] at h2
      | cons b es =>
        have : evAnd (Gam T Φ) (.cons a (.cons b es)) = andE (evE (Gam T Φ) a) (evAnd (Gam T Φ) (.cons b es)) := by funext ρ; rw [evAnd]; rfl; simp
        rw [this]; exact pxb_and ia.px ia.pxt ib
    · cases h
theorem sOr : ∀ (es : Es) {C : SC} {X : Cx}, XP T Φ k X → XC C X → ∀ {xs : List Expr}, ckBs T C es xs = true → ∀ pos : Pos, PXB X (.BoolOp .Or xs pos) (evOr (Gam T Φ) es)
  | .nil, C, X, p, x, xs, h, pos => by simp [ckBs] at h
  | .star _ _, C, X, p, x, xs, h, pos => by simp [ckBs] at h
  | .cons a es, C, X, p, x, xs, h, pos => by
    simp only [ckBs] at h
    split at h
    · obtain ⟨h1, h2⟩ := ba2 h
      cases es with
      | nil =>
        have ia := sE a p x h2
        have : evOr (Gam T Φ) (.cons a .nil) = asT (evE (Gam T Φ) a) := by funext ρ; simp only [evOr]; rfl
        rw [this]; exact pxb_or1 ia.px ia.pxt
      | cons _ _ => cases h1
      | star _ _ => cases h1
    · rename_i z y r
      obtain ⟨h1, h2⟩ := ba2 h
      have ia := sE a p x h1
      have ib := sOr es p x h2 pos
      cases es with
      | nil => simp [ckBs] at h2
      | star _ _ => simp [ckBs] at h2
      | cons b es =>
        have : evOr (Gam T Φ) (.cons a (.cons b es)) = orE (evE (Gam T Φ) a) (evOr (Gam T Φ) (.cons b es)) := by funext ρ; rw [evOr]; rfl; simp
        rw [this]; exact pxb_or ia.px ia.pxt ib
    · cases h
theorem sEs : ∀ (es : Es) {C : SC} {X : Cx}, XP T Φ k X → XC C X → ∀ {xs : List Expr}, ckEs T C es xs = true → PXA X xs (evEs (Gam T Φ) es)
  | .nil, C, X, p, x, xs, h => by
    simp only [ckEs] at h
    split at h
    · exact PXA.cg pxa_nil fun ρ => by simp only [evEs]
    · cases h
  | .star a es, C, X, p, x, xs, h => by
    simp only [ckEs] at h
    split at h
    · obtain ⟨h1, h2⟩ := ba2 h
      have ia := sE a p x h1
      exact PXA.cg (pxa_star ia.px (sEs es p x h2) rfl) fun ρ => by simp only [evEs]; rfl
    · cases h
  | .cons a es, C, X, p, x, xs, h => by
    simp only [ckEs] at h
    split at h
    · obtain ⟨h1, h2⟩ := ba2 h
      obtain ⟨h2, h3⟩ := ba2 h2
      have ia := sE a p x h2
      exact PXA.cg (pxa_cons ia.px (sEs es p x h3) (star_no h1)) fun ρ => by simp only [evEs]
    · cases h
theorem sPs : ∀ (es : Es) {C : SC} {X : Cx}, XP T Φ k X → XC C X → ∀ {xs : List Expr}, ckPs T C es xs = true → PXA X xs (evEs (Gam T Φ) es) ∧ ∀ ρ pr, evEs (Gam T Φ) es ρ = some pr → pr.1 ≠ [] → xs ≠ []
  | .nil, C, X, p, x, xs, h => by
    simp only [ckPs] at h
    split at h
    · refine ⟨PXA.cg pxa_nil fun ρ => by simp only [evEs], fun ρ pr e => ?_⟩
      simp only [evEs] at e
      cases e
      exact fun z => absurd rfl z
    · cases h
  | .star a es, C, X, p, x, xs, h => by simp [ckPs] at h
  | .cons a es, C, X, p, x, xs, h => by
    simp only [ckPs] at h
    split at h
    · obtain ⟨h1, h2⟩ := ba2 h
      obtain ⟨h2, h3⟩ := ba2 h2
      have ia := sE a p x h2
      exact ⟨PXA.cg (pxa_cons ia.px (sPs es p x h3).1 (star_no h1)) fun ρ => by simp only [evEs], fun ρ pr e z => by simp⟩
    · cases h
theorem sA : ∀ (a : A) {C : SC} {X : Cx}, XP T Φ k X → XC C X → ∀ {e : Expr}, ckA T C a e = true → PX1 X e a (evA (Gam T Φ) a)
  | .val a, C, X, p, x, e, h => by
    simp only [ckA] at h
    obtain ⟨h1, h2⟩ := ba2 h
    have ia := sE a p x h2
    have : evA (Gam T Φ) (.val a) = fun ρ => (evE (Gam T Φ) a ρ).map fun p => (some p.1, p.2) := by funext ρ; simp only [evA]
    rw [this]; exact px1_val ia.px
  | .ref i, C, X, p, x, e, h => by
    simp only [ckA] at h
    split at h
    · have : evA (Gam T Φ) (.ref i) = fun ρ => (getS ρ i).map fun _ => (none, ρ) := by funext ρ; simp only [evA]
      rw [this]; exact px1_ref (x.var h)
    · cases h
theorem sAs : ∀ (as : As) {C : SC} {X : Cx}, XP T Φ k X → XC C X → ∀ {es : List Expr}, ckAs T C as es = true → PXG X es as (evAs (Gam T Φ) as) ∧ NilOk es as (evAs (Gam T Φ) as)
  | .nil, C, X, p, x, es, h => by
    simp only [ckAs] at h
    split at h
    · have : evAs (Gam T Φ) .nil = fun ρ => some ([], ρ) := by funext ρ; simp only [evAs]
      rw [this]; exact ⟨pxg_nil, fun _ => ⟨rfl, rfl⟩⟩
    · cases h
  | .cons a as, C, X, p, x, es, h => by
    simp only [ckAs] at h
    split at h
    · obtain ⟨h1, h2⟩ := ba2 h
      have ia := sA a p x h1
      have : evAs (Gam T Φ) (.cons a as) = fun ρ => (evA (Gam T Φ) a ρ).bind fun p => (evAs (Gam T Φ) as p.2).map fun q => (p.1 :: q.1, q.2) := by funext ρ; simp only [evAs]
      rw [this]; exact ⟨pxg_cons ia (sAs as p x h2).1 (star_no (noStar_of h1)), fun z => by cases z⟩
    · cases h
theorem sI : ∀ (it : It) {C : SC} {X : Cx}, XP T Φ k X → XC C X → ∀ {e tg : Expr}, ckI T C it e tg = true → PXI X tg e (evIt (Gam T Φ) it)
  | .seq a, C, X, p, x, e, tg, h => by
    simp only [ckI] at h
    have ia := sE a p x h
    have : evIt (Gam T Φ) (.seq a) = seqE (evE (Gam T Φ) a) := by funext ρ; simp only [evIt]; rfl
    rw [this]; exact pxi_seq ia.px (pi_list ia.px.pe) (pi_tup ia.px.pe)
  | .rng a, C, X, p, x, e, tg, h => by
    simp only [ckI] at h
    split at h
    · obtain ⟨h1, h2⟩ := ba2 h
      obtain ⟨h2, h3⟩ := ba2 h2
      obtain ⟨h3, h4⟩ := ba2 h3
      have e1 := of_decide_eq_true h1
      subst e1
      have ia := sE a p x h4
      have : evIt (Gam T Φ) (.rng a) = rngE (evE (Gam T Φ) a) := by funext ρ; simp only [evIt]; rfl
      rw [this]; exact pxi_rng ia.px.ln (pi_range1 (x.gl h2).1 (p.free _ (by decide +kernel)) (pa_cons ia.px.pe pa_nil (star_no h3)) (star_no h3))
    · cases h
  | .mvs i, C, X, p, x, e, tg, h => by
    simp only [ckI] at h
    split at h
    · have : evIt (Gam T Φ) (.mvs i) = fun ρ => (ownO ρ i).map fun ds => (ds, ρ.set i none) := by funext ρ; simp only [evIt]; rfl
      rw [this]; exact pxi_mvs (pi_list (x.var h))
    · cases h
  | .rng2 a b, C, X, p, x, e, tg, h => by
    simp only [ckI] at h
    split at h
    · obtain ⟨h1, h2⟩ := ba2 h
      obtain ⟨h2, h3⟩ := ba2 h2
      obtain ⟨h3, h4⟩ := ba2 h3
      obtain ⟨h4, h5⟩ := ba2 h4
      obtain ⟨h5, h6⟩ := ba2 h5
      have e1 := of_decide_eq_true h1
      subst e1
      have ia := sE a p x h5
      have ib := sE b p x h6
      have : evIt (Gam T Φ) (.rng2 a b) = rng2E (evE (Gam T Φ) a) (evE (Gam T Φ) b) := by funext ρ; simp only [evIt]; rfl
      rw [this]; exact pxi_rng2 ia.px.ln ib.px.ln (pi_range2 (x.gl h2).1 (p.free _ (by decide +kernel)) (pa_cons ia.px.pe (pa_cons ib.px.pe pa_nil (star_no h4)) (star_no h3)) (by rw [star_no h3, star_no h4]; rfl) (star_no h4))
    · cases h
  | .zip a b, C, X, p, x, e, tg, h => by
    simp only [ckI] at h
    split at h
    · obtain ⟨h1, h2⟩ := ba2 h
      obtain ⟨h0, h2⟩ := ba2 h2
      obtain ⟨h2, h3⟩ := ba2 h2
      obtain ⟨h3, h4⟩ := ba2 h3
      obtain ⟨h4, h5⟩ := ba2 h4
      obtain ⟨h5, h6⟩ := ba2 h5
      have e1 := of_decide_eq_true h1
      subst e1
      have ia := sE a p x h5
      have ib := sE b p x h6
      have : evIt (Gam T Φ) (.zip a b) = zipE (evE (Gam T Φ) a) (evE (Gam T Φ) b) := by funext ρ; simp only [evIt]; rfl
      rw [this]
      have hg2 := (x.gl h2).1
      cases tg <;> simp only [isTuple, Bool.false_eq_true] at h0
      exact pxi_zip ia.px.ln ib.px.ln (pi_zip hg2 (p.free _ (by decide +kernel)) (pa_cons ia.px.pe (pa_cons ib.px.pe pa_nil (star_no h4)) (star_no h3)) (star_no h3) (any_no (by simp [h4])))
    · cases h
  | .enum a, C, X, p, x, e, tg, h => by
    simp only [ckI] at h
    split at h
    · obtain ⟨h1, h2⟩ := ba2 h
      obtain ⟨h0, h2⟩ := ba2 h2
      obtain ⟨h2, h3⟩ := ba2 h2
      obtain ⟨h3, h4⟩ := ba2 h3
      have e1 := of_decide_eq_true h1
      subst e1
      have ia := sE a p x h4
      have : evIt (Gam T Φ) (.enum a) = enumE (evE (Gam T Φ) a) := by funext ρ; simp only [evIt]; rfl
      rw [this]
      have hg2 := (x.gl h2).1
      cases tg <;> simp only [isTuple, Bool.false_eq_true] at h0
      exact pxi_enum ia.px.ln (pi_enum hg2 (p.free _ (by decide +kernel)) (pa_cons ia.px.pe pa_nil (star_no h3)) (star_no h3))
    · cases h
end
end FL

/-! X4: what is checked is so: expressions that raise, suites of clauses. -/
namespace FL
open PySem PySem.Spec PyProof.Rows L2 StX
variable {T : Tab} {Φ : Fs × Fx} {k : Nat}
theorem callx_fn {X : Cx} {C : SC} {W : WX} (p : XP T Φ k X) (c : XC C X) (tk : L2N.Takes X W) {f : Nat} {x : Str} {es : List Expr} {as : As} {er : Env → Option (List (Option D) × Env)} {q pos : Pos} (hf : (T.fns[f]?).map (·.at_) = some (x, none)) (hg : glB C x = true) (hs : es.all noStar = true) (ha : PXG X es as er) (hn0 : NilOk es as er) :
    PXX X W (.Call (.Name x q) es [] pos) (callX (Φ.2 f) as er) := by
  obtain ⟨fn, e1, e2⟩ := mpd hf
  obtain ⟨fd, F, B, kp⟩ := p.fns f fn e1
  have ea : He.fAd X.K fn.at_ = He.ga X.K x := by rw [e2]; rfl
  rw [ea] at F kp
  have hm := p.glo f fn e1 (by rw [e2])
  rw [e2] at hm
  have hm : X.mg x = some (.ref (He.ga X.K x)) := hm
  obtain ⟨g1, g2⟩ := c.gl hg
  have hn : ∀ ds r, Φ.2 f ds = some r → ds.length = fn.ps.length := fun ds r h => by
    obtain ⟨fn', e3, e4⟩ := p.arX f ds r h
    rw [e1] at e3; cases e3; exact e4
  have hr : Room k X.A := p.room.mono (Nat.le_succ _)
  cases es with
  | nil =>
    obtain ⟨rfl, rfl⟩ := hn0 rfl
    exact pxx_call hn ha (pe_imp (FX.pe_call0S F hr g1 hm kp B (L2N.passAt tk) g2) fun σ H Q q => tArg_nil q)
  | cons e es =>
    rw [List.all_cons, Bool.and_eq_true] at hs
    exact pxx_call hn ha (pe_callS F hr g1 hm kp B (L2N.passAt tk) ha.pa g2 (star_no hs.1) (any_no hs.2))
theorem callx_mk {X : Cx} {C : SC} {W : WX} (p : XP T Φ k X) (c : XC C X) (tk : L2N.Takes X W) {f : Nat} {x : Str} {es : List Expr} {as : As} {er : Env → Option (List (Option D) × Env)} {q pos : Pos} (hf : (T.fns[f]?).map (·.at_) = some (x, some ("__init__" : Str))) (hg : glB C x = true) (hs : es.all noStar = true) (ha : PXG X es as er) (hn0 : NilOk es as er) :
    PXX X W (.Call (.Name x q) es [] pos) (makeX (Φ.2 f) x as er) := by
  obtain ⟨fn, e1, e2⟩ := mpd hf
  obtain ⟨fd, F, B, kp⟩ := p.fns f fn e1
  obtain ⟨M, hm⟩ := p.mak f fn x e1 e2
  have ea : He.fAd X.K fn.at_ = He.ma X.K (He.ga X.K x) "__init__" := by rw [e2]; rfl
  rw [ea] at F
  obtain ⟨g1, g2⟩ := c.gl hg
  have hn : ∀ ds r, Φ.2 f ds = some r → ds.length = fn.ps.length := fun ds r h => by
    obtain ⟨fn', e3, e4⟩ := p.arX f ds r h
    rw [e1] at e3; cases e3; exact e4
  cases es with
  | nil =>
    obtain ⟨rfl, rfl⟩ := hn0 rfl
    exact pxx_make hn ha (pe_imp (FX.pe_make0S' M F p.room g1 hm B (L2N.passAt tk) g2) fun σ H Q q => tArg_nil q)
  | cons e es =>
    rw [List.all_cons, Bool.and_eq_true] at hs
    exact pxx_make hn ha (FX.pe_makeS' M F p.room g1 hm B (L2N.passAt tk) ha.pa g2 (star_no hs.1) (any_no hs.2))
theorem callx_mt {X : Cx} {C : SC} {W : WX} (p : XP T Φ k X) (c : XC C X) (tk : L2N.Takes X W) {m : Str} {oe : Expr} {o : A} {ex : Env → Option (Option D × Env)} {es : List Expr} {as : As} {er : Env → Option (List (Option D) × Env)} {ap pos : Pos} (hb : notCall oe = true) (hl : (ap.endLine == pos.line) = true) (h30 : es.length < 30) (hs : es.all noStar = true)
    (ho : PX1 X oe o ex) (ha : PXG X es as er) (hn0 : NilOk es as er) : PXX X W (.Call (.Attribute oe m ap) es [] pos) (methX Φ.2 T.ms m o as ex er) := by
  refine pxx_meth (Φ := Φ.1) (ar := arOf T) (fun f ds r h => p.arityX h) ho ha fun cl f hmem => ?_
  obtain ⟨fn, e1, e2, M, Cl⟩ := p.mth cl m f hmem
  obtain ⟨fd, F, B, kp⟩ := p.fns f fn e1
  have ea : He.fAd X.K fn.at_ = He.ma X.K (He.ga X.K cl) m := by rw [e2]; rfl
  rw [ea] at F
  have en : fn.ps.length = arOf T f := by unfold arOf; rw [e1]; rfl
  rw [en] at F
  have hr : Room k X.A := p.room.mono (Nat.le_succ _)
  cases es with
  | nil =>
    obtain ⟨rfl, rfl⟩ := hn0 rfl
    refine pe_imp (FX.pe_meth0S' (pl := plainOf oe X.env) ho.pe Cl M F hr B (L2N.passAt tk) (mth_eq (base_of hb) rfl h30 hl)) fun σ H Q q => ?_
    obtain ⟨Gf, N, ts, ρ, hl, hs, p, e, q⟩ := q
    refine ⟨Gf, N, ts, ρ, hl, hs, p, e, fun v H' r h' => ?_⟩
    obtain ⟨a, dx, fs, z1, z2, z3, z4⟩ := q v H' r h'
    exact ⟨a, dx, fs, z1, z2, z3, tArg_nil z4⟩
  | cons e es =>
    have hs' := hs
    rw [List.all_cons, Bool.and_eq_true] at hs
    exact FX.pe_methS' (pl := plainOf oe X.env) ho.pe Cl M F hr B (L2N.passAt tk) ha.pa (star_no hs.1) (any_no hs.2) (mth_eq (base_of hb) hs' h30 hl)
theorem callx_bl {X : Cx} {C : SC} {W : WX} (p : XP T Φ k X) (c : XC C X) {b : Blt} {es : List Expr} {ev : Env → Option (Exn × Env)} {q pos : Pos} (hg : glB C (bltN b) = true) (hs : es.all noStar = true) (ha : PXXs X W es ev) (h0 : es = [] → ∀ ρ, ev ρ = none) : PXX X W (.Call (.Name (bltN b) q) es [] pos) ev := by
  obtain ⟨g1, g2⟩ := c.gl hg
  have hv := blt_boot b
  have hm := free_blt p b
  have hne' := bltn_ne b
  refine ⟨?_, ha.ln⟩
  cases es with
  | nil =>
    have e : ev = fun _ => none := funext (h0 rfl)
    rw [e]
    exact pxx_none.pe
  | cons e es =>
    rw [List.all_cons, Bool.and_eq_true] at hs
    have hc := callr_B (X := X) c.calm b
    cases b <;> first
      | exact pe_imp (pe_callB hc g1 hm hv ha.pa hne' g2 (star_no hs.1) (any_no hs.2)) fun σ H Q q => q
      | exact pe_imp (pe_callTy hc g1 hm hv ha.pa hne' g2 (star_no hs.1) (any_no hs.2)) fun σ H Q q => q
mutual
theorem sX : ∀ (a : E) {C : SC} {X : Cx} {W : WX}, XP T Φ k X → XC C X → L2N.Takes X W → ∀ {e : Expr}, ckE T C a e = true → PXX X W e (evX (Gam T Φ) a)
  | .call f as, C, X, W, p, x, tk, e, h => by
    simp only [ckE] at h
    split at h
    · obtain ⟨h1, h2⟩ := ba2 h
      obtain ⟨h2, h3⟩ := ba2 h2
      obtain ⟨i1, i2⟩ := sAs as p x h3
      exact PXX.cg (callx_fn p x tk (of_decide_eq_true h1) h2 (ckAs_all h3) i1 i2) fun ρ => by simp only [evX]; rfl
    · cases h
  | .meth m o as, C, X, W, p, x, tk, e, h => by
    simp only [ckE] at h
    split at h
    · obtain ⟨h1, h2⟩ := ba2 h
      obtain ⟨h2, h3⟩ := ba2 h2
      obtain ⟨h3, h4⟩ := ba2 h3
      obtain ⟨h4, h5⟩ := ba2 h4
      obtain ⟨h5, h6⟩ := ba2 h5
      have e1 := of_decide_eq_true h1
      subst e1
      obtain ⟨i1, i2⟩ := sAs as p x h6
      exact PXX.cg (callx_mt p x tk h2 h3 (of_decide_eq_true h4) (ckAs_all h6) (sA o p x h5) i1 i2) fun ρ => by simp only [evX]; rfl
    · cases h
  | .make c f as, C, X, W, p, x, tk, e, h => by
    simp only [ckE] at h
    split at h
    · obtain ⟨h1, h2⟩ := ba2 h
      obtain ⟨h2, h3⟩ := ba2 h2
      obtain ⟨h3, h4⟩ := ba2 h3
      have e1 := of_decide_eq_true h1
      subst e1
      obtain ⟨i1, i2⟩ := sAs as p x h4
      exact PXX.cg (callx_mk p x tk (of_decide_eq_true h2) h3 (ckAs_all h4) i1 i2) fun ρ => by simp only [evX]; rfl
    · cases h
  | .shr a, C, X, W, p, x, tk, e, h => by
    simp only [ckE] at h
    exact PXX.cg (sX a p x tk h) fun ρ => by simp only [evX]
  | .tup es, C, X, W, p, x, tk, e, h => by
    simp only [ckE] at h
    split at h
    · exact PXX.cg (pxx_tup (sXs es p x tk h)) fun ρ => by simp only [evX]
    · cases h
  | .cst _, _, _, _, _, _, _, _, _ => PXX.cg pxx_none fun ρ => by simp only [evX]
  | .var _, _, _, _, _, _, _, _, _ => PXX.cg pxx_none fun ρ => by simp only [evX]
  | .mov _, _, _, _, _, _, _, _, _ => PXX.cg pxx_none fun ρ => by simp only [evX]
  | .bin _ _ _, _, _, _, _, _, _, _, _ => PXX.cg pxx_none fun ρ => by simp only [evX]
  | .neg _, _, _, _, _, _, _, _, _ => PXX.cg pxx_none fun ρ => by simp only [evX]
  | .not _, _, _, _, _, _, _, _, _ => PXX.cg pxx_none fun ρ => by simp only [evX]
  | .and _, _, _, _, _, _, _, _, _ => PXX.cg pxx_none fun ρ => by simp only [evX]
  | .or _, _, _, _, _, _, _, _, _ => PXX.cg pxx_none fun ρ => by simp only [evX]
  | .cmp op a b, C, X, W, p, x, tk, e, h => by
    simp only [ckE] at h
    split at h
    · obtain ⟨h1, h2⟩ := ba2 h
      obtain ⟨h2, h3⟩ := ba2 h2
      obtain ⟨h3, h4⟩ := ba2 h3
      have e1 := of_decide_eq_true h1
      subst e1
      have ia := sX a p x tk h3
      have ib := sE b p x h4
      exact PXX.cg ⟨pe_imp (pe_cmpR (opr_C p.hu op) ia.pe ib.px.pe (nomark_of h2)) fun σ H Q q => q, ia.ln⟩ fun ρ => by simp only [evX]
    · cases h
  | .chn _ _ _ _ _, _, _, _, _, _, _, _, _ => PXX.cg pxx_none fun ρ => by simp only [evX]
  | .ite _ _ _, _, _, _, _, _, _, _, _ => PXX.cg pxx_none fun ρ => by simp only [evX]
  | .lst _, _, _, _, _, _, _, _, _ => PXX.cg pxx_none fun ρ => by simp only [evX]
  | .idx _ _, _, _, _, _, _, _, _, _ => PXX.cg pxx_none fun ρ => by simp only [evX]
  | .idv _ _, _, _, _, _, _, _, _, _ => PXX.cg pxx_none fun ρ => by simp only [evX]
  | .slc _ _ _, _, _, _, _, _, _, _, _ => PXX.cg pxx_none fun ρ => by simp only [evX]
  | .blt b es, C, X, W, p, x, tk, e, h => by
    simp only [ckE] at h
    split at h
    · obtain ⟨h1, h2⟩ := ba2 h
      obtain ⟨h2, h3⟩ := ba2 h2
      have e1 := of_decide_eq_true h1
      subst e1
      exact PXX.cg (callx_bl p x h2 (ckPs_all h3) (sXp es p x tk h3) fun z ρ => by
        subst z
        cases es with
        | nil => simp only [evXs]
        | star a b => simp only [evXs]
        | cons a b => simp [ckPs] at h3) fun ρ => by simp only [evX]
    · cases h
  | .isi _ _, _, _, _, _, _, _, _, _ => PXX.cg pxx_none fun ρ => by simp only [evX]
  | .fld _ _, _, _, _, _, _, _, _, _ => PXX.cg pxx_none fun ρ => by simp only [evX]
  | .flv _ _, _, _, _, _, _, _, _, _ => PXX.cg pxx_none fun ρ => by simp only [evX]
  | .comp _ _ _ _, _, _, _, _, _, _, _, _ => PXX.cg pxx_none fun ρ => by simp only [evX]
  | .gti o b, C, X, W, p, x, tk, e, h => by
    simp only [ckE] at h
    split at h
    · obtain ⟨h1, h2⟩ := ba2 h
      obtain ⟨h2, h3⟩ := ba2 h2
      have ia := sE o p x h2
      have ib := sE b p x h3
      exact PXX.cg (pxx_gti (Φ := Φ.1) (Ψ := Φ.2) (ar := arOf T) (fun f ds r h => p.arityX h) ia.px ib.px fun c f mem => gti_pe p (L2N.passAt tk) h1 ia.px.pe ib.px.pe c f mem) fun ρ => by simp only [evX]
    · cases h
  | .oeq _ _, _, _, _, _, _, _, _, _ => PXX.cg pxx_none fun ρ => by simp only [evX]
  | .plc _, _, _, _, _, _, _, _, _ => PXX.cg pxx_none fun ρ => by simp only [evX]
  | .lrg _, _, _, _, _, _, _, _, _ => PXX.cg pxx_none fun ρ => by simp only [evX]
  | .dic0, _, _, _, _, _, _, _, _ => PXX.cg pxx_none fun ρ => by simp only [evX]
  | .lnv _, _, _, _, _, _, _, _, _ => PXX.cg pxx_none fun ρ => by simp only [evX]
  | .bor _, _, _, _, _, _, _, _, _ => PXX.cg pxx_none fun ρ => by simp only [evX]
  | .comp2 _ _ _ _ _ _, _, _, _, _, _, _, _, _ => PXX.cg pxx_none fun ρ => by simp only [evX]
theorem sXp : ∀ (as : Es) {C : SC} {X : Cx} {W : WX}, XP T Φ k X → XC C X → L2N.Takes X W → ∀ {es : List Expr}, ckPs T C as es = true → PXXs X W es (evXs (Gam T Φ) as)
  | .nil, _, _, _, _, _, _, _, _ => PXXs.cg pxxs_none fun ρ => by simp only [evXs]
  | .star _ _, _, _, _, _, _, _, _, _ => PXXs.cg pxxs_none fun ρ => by simp only [evXs]
  | .cons a as, C, X, W, p, x, tk, es, h => by
    simp only [ckPs] at h
    split at h
    · obtain ⟨h1, h2⟩ := ba2 h
      obtain ⟨h2, h3⟩ := ba2 h2
      exact PXXs.cg (pxxs_cons (sE a p x h2).px (sX a p x tk h2) (sXp as p x tk h3) (star_no h1)) fun ρ => by simp only [evXs]; rfl
    · cases h
theorem sXs : ∀ (as : Es) {C : SC} {X : Cx} {W : WX}, XP T Φ k X → XC C X → L2N.Takes X W → ∀ {es : List Expr}, ckEs T C as es = true → PXXs X W es (evXs (Gam T Φ) as)
  | .nil, _, _, _, _, _, _, _, _ => PXXs.cg pxxs_none fun ρ => by simp only [evXs]
  | .star _ _, _, _, _, _, _, _, _, _ => PXXs.cg pxxs_none fun ρ => by simp only [evXs]
  | .cons a as, C, X, W, p, x, tk, es, h => by
    simp only [ckEs] at h
    split at h
    · obtain ⟨h1, h2⟩ := ba2 h
      obtain ⟨h2, h3⟩ := ba2 h2
      exact PXXs.cg (pxxs_cons (sE a p x h2).px (sX a p x tk h2) (sXs as p x tk h3) (star_no h1)) fun ρ => by simp only [evXs]; rfl
    · cases h
end
/-! ### suites -/
/-- what a suite knows of the exception that it holds -/
structure ZIn (T : Tab) (K : PySem.W.Frag) (sl : Option Nat) (a : Addr) (cls : Value) (d : Option Addr) (x : Exn) (Gf : Hp) (ts : List Root) (σ : L2.St) : Prop where
  cl : cls = .ref (He.ga K x.c)
  tb : ∃ q ∈ T.xt, q.1 = x.c
  sl : ∀ i, sl = some i → σ[i]? = some (some (.ref a))
  fd : match x.a with
    | none => d = none
    | some (f, y) => ∃ dd v, d = some dd ∧ Gf dd = some (.xd [(f, v)]) ∧ tmp v (share y) ∈ ts
theorem ZIn.more {K : PySem.W.Frag} {sl : Option Nat} {a : Addr} {cls : Value} {d : Option Addr} {x : Exn} {Gf : Hp} {ts : List Root} {σ : L2.St} (h : ZIn T K sl a cls d x Gf ts σ) (r : Root) : ZIn T K sl a cls d x Gf (r :: ts) σ := by
  obtain ⟨h1, h0, h2, h3⟩ := h
  refine ⟨h1, h0, h2, ?_⟩
  obtain ⟨c, o⟩ := x
  cases o with
  | none => exact h3
  | some p =>
    obtain ⟨dd, v, e1, e2, e3⟩ := h3
    exact ⟨dd, v, e1, e2, List.mem_cons_of_mem _ e3⟩
def tZ (T : Tab) (K : PySem.W.Frag) (sl : Option Nat) (a : Addr) (cls : Value) (d : Option Addr) (ev : Exn → Option D) : TE := fun σ H Q => ∃ x Gf N ts ρ, SR K Gf N H (ts ++ σ.zip ρ) ∧ ZIn T K sl a cls d x Gf ts σ ∧ ∃ y, ev x = some y ∧ ∀ v H', SR K Gf N H' (tmp v y :: (ts ++ σ.zip ρ)) → Q v H'
def tZs (T : Tab) (K : PySem.W.Frag) (sl : Option Nat) (a : Addr) (cls : Value) (d : Option Addr) (ev : Exn → Option (List D)) : TA := fun σ H Q => ∃ x Gf N ts ρ, SR K Gf N H (ts ++ σ.zip ρ) ∧ ZIn T K sl a cls d x Gf ts σ ∧ ∃ ys, ev x = some ys ∧ ∀ vs H', vs.length = ys.length → SR K Gf N H' (tmps vs ys ++ (ts ++ σ.zip ρ)) → Q vs H'
/-- Gf's objects stand -/
theorem SR.stands {K : PySem.W.Frag} {Gf H : Hp} {N : List Addr} {rs : List Root} {b : Addr} {o : HO} (h : SR K Gf N H rs) (e : Gf b = some o) : H b = some o := by
  obtain ⟨_, F, _, _, g⟩ := h
  exact (hid_some.mp (g b o e)).2
theorem SR.again {K : PySem.W.Frag} {Gf H : Hp} {N : List Addr} {rs : List Root} {v : V} {y : D} (h : SR K Gf N H rs) (m : tmp v (share y) ∈ rs) : SR K Gf N H (tmp v (share y) :: rs) := by
  obtain ⟨l1, l2, rfl⟩ := List.append_of_mem m
  exact (SR.dup (SR.toFront h) (share_share y)).perm (.cons _ List.perm_middle.symm)
section
variable {X : Cx} {C : SC} {sl : Option Nat} {a : Addr} {oe : Obj} {cls : Value} {d : Option Addr}
/-- the context of a suite -/
structure XZ (T : Tab) (Φ : Fs × Fx) (k : Nat) (C : SC) (Y : Cx) (a : Addr) (oe : Obj) (cls : Value) (d : Option Addr) : Prop where
  c : XC0 C Y
  hp : (a, oe) ∈ Y.pn
  hz : L2N.Zn cls d oe
  hf : ∃ fv, oe.data = .fields fv
  xg : ∀ q ∈ T.xt, Y.mg q.1 = some (.ref (He.ga Y.K q.1)) ∧ FX.XFacts Y.K (He.ga Y.K q.1)
  xk : ∀ q ∈ T.xt, (∀ r ∈ T.xt, PySem.W.kitOne Y.K (.ref (He.ga Y.K q.1)) (.ref (He.ga Y.K r.1)) = some (q.2.contains r.1)) ∧ PySem.W.kitOne Y.K (.ref (He.ga Y.K q.1)) (.type "ValueError") = some (q.2.contains ("ValueError" : Str))
  xn : ∀ q ∈ T.xt, ∀ r ∈ T.xi, PySem.W.findIn Y.K (.ref (He.ga Y.K q.1)) r.2 = some none
  xv : Y.mg "ValueError" = none
  fi : Y.mg "isinstance" = none
  isn : ∀ f ∈ T.isn, ∀ (x : Str) (e : Expr) (te : TE) (q pos : Pos), (T.fns[f]?).map (·.at_) = some (x, none) → glB C x = true → noStar e = true → PE Y e te → PE Y (.Call (.Name x q) [e] [] pos) (fun σ H Q => te σ H fun v H1 => ∃ b, intV v = some b ∧ Q (.bl b) H1)
theorem nm_slot {x : Str} (h : nmOk C sl x = true) : ∃ i, sl = some i ∧ nameOk C i x = true := by
  unfold nmOk at h
  split at h
  · exact ⟨_, rfl, h⟩
  · cases h
theorem any_mem {α : Type} {l : List α} {f : α → Bool} (h : l.any f = true) : ∃ x ∈ l, f x = true := List.any_eq_true.mp h
theorem isX_some {c c' : Str} {b : Bool} (h : isX T.xt c c' = some b) : ∃ q ∈ T.xt, q.1 = c ∧ q.2.contains c' = b := by
  unfold isX at h
  obtain ⟨l, e, rfl⟩ := mpd h
  have : ∀ (xs : List (Str × List Str)), xs.lookup c = some l → (c, l) ∈ xs := by
    intro xs
    induction xs with
    | nil => intro z; cases z
    | cons p xs ih =>
      obtain ⟨c1, l1⟩ := p
      intro z
      simp only [List.lookup] at z
      split at z
      · rename_i hc
        have : c = c1 := by simpa using hc
        cases z; subst this; exact List.mem_cons_self ..
      · exact List.mem_cons_of_mem _ (ih z)
  exact ⟨(c, l), this _ e, rfl, rfl⟩
mutual
theorem sSE : ∀ (s : SE) {Y : Cx}, XZ T Φ k C Y a oe cls d → ∀ {e : Expr}, ckSE T C sl s e = true → PE Y e (tZ T Y.K sl a cls d fun x => evSE (Gam T Φ) x s)
  | .cst c, Y, z, e, h => by
    simp only [ckSE] at h
    split at h
    · rename_i kc j pos
      have key : ∀ {v : V}, Flat v (evCst c) → PE Y (.Constant kc j pos) (tC v) → PE Y (.Constant kc j pos) (tZ T Y.K sl a cls d fun x => evSE (Gam T Φ) x (.cst c)) := fun {v} fl h => pe_imp h fun σ H Q ⟨x, Gf, N, ts, ρ, hS, zi, y, e, q⟩ => by
        simp only [evSE] at e
        cases e
        exact q _ _ (hS.flat fl)
      cases c <;> cases kc <;> simp only [cstOk, Bool.false_eq_true] at h <;> first
        | exact key .non pe_non
        | (have := of_decide_eq_true h; subst this; exact key (.bl _) pe_bl)
        | (have := of_decide_eq_true h; subst this; exact key (.int _) pe_int)
        | (have := of_decide_eq_true h; subst this; exact key (.str _) pe_str)
    · cases h
  | .fld f, Y, z, e, h => by
    simp only [ckSE] at h
    split at h
    · rename_i x0 p1 g p2
      obtain ⟨h1, r2⟩ := ba2 h
      obtain ⟨h3, h4⟩ := ba2 r2
      have e1 := of_decide_eq_true h1
      subst e1
      obtain ⟨i, rfl, hi⟩ := nm_slot h3
      obtain ⟨r, hr, er⟩ := any_mem h4
      have er := of_decide_eq_true er
      refine pe_any fun σ H Q ⟨x, Gf, N, ts, ρ, hS, zi, y, e, q⟩ => ?_
      obtain ⟨c, o⟩ := x
      simp only [evSE] at e
      obtain ⟨⟨f1, y1⟩, e1, eI⟩ := bnd e
      clear e
      subst e1
      simp only at eI
      split at eI
      · rename_i ef
        subst ef
        cases eI
        obtain ⟨dd, v, rfl, e2, e3⟩ := zi.fd
        obtain ⟨q0, hq0, eq0⟩ := zi.tb
        simp only at eq0
        subst eq0
        have ecl := zi.cl
        simp only at ecl
        subst ecl
        have hno := z.xn q0 hq0 r hr
        rw [er] at hno
        refine ⟨_, FX.pe_xfl (z.xg q0 hq0).2 hno z.hp z.hz.zc z.hf (z.c.var hi), ?_⟩
        exact ⟨_, zi.sl i rfl, rfl, _, v, hS.stands e2, by simp [List.lookup], q v H (hS.again (List.mem_append_left _ e3))⟩
      · cases eI
    · cases h
  | .isx c, Y, z, e, h => by
    simp only [ckSE] at h
    split at h
    · rename_i f0 p1 x0 p2 y0 p3 p4
      obtain ⟨h1, r1⟩ := ba2 h
      obtain ⟨h2, r2⟩ := ba2 r1
      obtain ⟨h3, r3⟩ := ba2 r2
      obtain ⟨h4, r4⟩ := ba2 r3
      obtain ⟨h5, h6⟩ := ba2 r4
      have e1 := of_decide_eq_true h1
      have e4 := of_decide_eq_true h4
      subst e1
      subst e4
      obtain ⟨i, rfl, hi⟩ := nm_slot h3
      obtain ⟨g1, g2⟩ := z.c.gl h2
      obtain ⟨g3, g4⟩ := z.c.gl h5
      refine pe_any fun σ H Q ⟨x, Gf, N, ts, ρ, hS, zi, y, e, q⟩ => ?_
      simp only [evSE] at e
      obtain ⟨b, e2, rfl⟩ := mpd e
      obtain ⟨q0, hq0, eq0, eb⟩ := isX_some e2
      have ecl := zi.cl
      rw [← eq0] at ecl
      subst ecl
      have hd : ∀ dd, d = some dd → ∃ fs, H dd = some (.xd fs) := fun dd ed => by
        have zf := zi.fd
        obtain ⟨c, o⟩ := x
        cases o with
        | none => simp only at zf; rw [zf] at ed; cases ed
        | some p =>
          obtain ⟨dd', v, e5, e6, _⟩ := zf
          rw [e5] at ed; cases ed
          exact ⟨_, hS.stands e6⟩
      have fin : ∀ {v : V} {cv : Value}, PE Y (.Name y0 p3) (tC v) → (∀ u, RelV v u → u = cv) → PySem.W.kitOne Y.K (.ref (He.ga Y.K q0.1)) cv = some b → ∃ t, PE Y (.Call (.Name "isinstance" p1) [.Name x0 p2, .Name y0 p3] [] p4) t ∧ t σ H Q := fun {v cv} hv hu hk =>
        ⟨_, pe_callB (FX.call_xis (z.xg q0 hq0).2 z.hp z.hz.zc z.hf) g1 z.fi PyProof.Rows.Boot.«isinstance» (pa_cons (z.c.var hi) (pa_cons hv pa_nil rfl) rfl) (by decide) g2 rfl rfl, _, zi.sl i rfl, v, cv, b, rfl, hu, hk, hd, q _ _ (hS.flat (.bl b))⟩
      unfold xName at h6
      rcases Bool.or_eq_true_iff.mp h6 with h7 | h7
      · obtain ⟨r, hr, er⟩ := any_mem h7
        have er := of_decide_eq_true er
        have hm := (z.xg r hr).1
        have hk := (z.xk q0 hq0).1 r hr
        rw [er] at hm hk
        rw [eb] at hk
        exact fin (v := .ref (He.ga Y.K y0)) (pe_glob g3 hm rfl g4) (fun u hu => hu) hk
      · have e7 := of_decide_eq_true h7
        subst e7
        have hk := (z.xk q0 hq0).2
        rw [eb] at hk
        exact fin (v := .ty "ValueError") (pe_bltn g3 z.xv PyProof.Rows.Boot.«ValueError» rfl (by decide) g4) (fun u hu => hu) hk
    · cases h
  | .tup es, Y, z, e, h => by
    simp only [ckSE] at h
    split at h
    · refine pe_imp (pe_tup (sSEs es z h)) fun σ H Q ⟨x, Gf, N, ts, ρ, hS, zi, y, e, q⟩ => ?_
      simp only [evSE] at e
      obtain ⟨ds, e1, e⟩ := bnd e
      split at e
      · rename_i hl
        cases e
        exact ⟨x, Gf, N, ts, ρ, hS, zi, ds, e1, fun vs H1 l h1 => ⟨by rw [l, sizeLine_eq]; exact hl, fun p hp => q _ _ (h1.newT l hp)⟩⟩
      · cases e
    · cases h
  | .and s1 s2, Y, z, e, h => by
    simp only [ckSE] at h
    split at h
    · obtain ⟨h1, r1⟩ := ba2 h
      obtain ⟨h2, h3⟩ := ba2 r1
      have e1 := of_decide_eq_true h1
      subst e1
      refine pe_imp (pe_and (sSE s1 z h2) (pe_one (sSE s2 z h3))) fun σ H Q ⟨x, Gf, N, ts, ρ, hS, zi, y, e, q⟩ => ?_
      simp only [evSE] at e
      obtain ⟨d1, e1, e⟩ := bnd e
      refine ⟨x, Gf, N, ts, ρ, hS, zi, d1, e1, fun v H1 hv => ?_⟩
      cases d1 with
      | bl b =>
        refine ⟨b, hv.isBl, ?_⟩
        cases b with
        | true =>
          refine iteT ?_
          obtain ⟨d2, e2, e⟩ := bnd e
          refine ⟨x, Gf, N, ts, ρ, hv.drop, zi, d2, e2, fun w H2 hw => q w H2 ?_⟩
          cases d2 with
          | bl k => cases e; exact hw
          | _ => cases e
        | false =>
          cases e
          refine iteF (q _ _ ?_)
          rw [← hv.isBl]; exact hv
      | _ => cases e
    · cases h
  | .isint f s, Y, z, e, h => by
    simp only [ckSE] at h
    split at h
    · obtain ⟨h1, r1⟩ := ba2 h
      obtain ⟨h2, r2⟩ := ba2 r1
      obtain ⟨h3, r3⟩ := ba2 r2
      obtain ⟨h4, h5⟩ := ba2 r3
      refine pe_imp (z.isn f (by simpa using h1) _ _ _ _ _ (of_decide_eq_true h2) h3 h4 (sSE s z h5)) fun σ H Q ⟨x, Gf, N, ts, ρ, hS, zi, y, e, q⟩ => ?_
      simp only [evSE] at e
      obtain ⟨d1, e1, e⟩ := bnd e
      obtain ⟨b, e2, rfl⟩ := mpd e
      refine ⟨x, Gf, N, ts, ρ, hS, zi, d1, e1, fun v H1 hv => ⟨b, ?_, q _ _ (hv.drop.flat (.bl b))⟩⟩
      cases d1 <;> simp only [intO, reduceCtorEq] at e2
      · rw [hv.isNon]; exact e2
      · rw [hv.isBl]; exact e2
      · rw [hv.isInt]; exact e2
      · rw [hv.isStr]; exact e2
    · cases h
theorem sSEs : ∀ (ss : SEs) {Y : Cx}, XZ T Φ k C Y a oe cls d → ∀ {es : List Expr}, ckSEs T C sl ss es = true → PA Y es (tZs T Y.K sl a cls d fun x => evSEs (Gam T Φ) x ss)
  | .nil, Y, z, es, h => by
    simp only [ckSEs] at h
    split at h
    · exact pa_imp pa_nil fun σ H Q ⟨x, Gf, N, ts, ρ, hS, zi, y, e, q⟩ => by
        simp only [evSEs] at e
        cases e
        exact q [] H rfl hS
    · cases h
  | .cons s ss, Y, z, es, h => by
    simp only [ckSEs] at h
    split at h
    · obtain ⟨h1, r1⟩ := ba2 h
      obtain ⟨h2, h3⟩ := ba2 r1
      refine pa_imp (pa_cons (sSE s z h2) (sSEs ss z h3) (star_no h1)) fun σ H Q ⟨x, Gf, N, ts, ρ, hS, zi, y, e, q⟩ => ?_
      simp only [evSEs] at e
      obtain ⟨d1, e1, e⟩ := bnd e
      obtain ⟨ds, e2, rfl⟩ := mpd e
      refine ⟨x, Gf, N, ts, ρ, hS, zi, d1, e1, fun v H1 hv => ⟨x, Gf, N, tmp v d1 :: ts, ρ, hv, zi.more _, ds, e2, fun vs H2 l h2 => q (v :: vs) H2 (by simp [l]) ?_⟩⟩
      exact SR.toFront (rs' := tmps vs ds) h2
    · cases h
end
end
end FL

/-! X5: try. -/
namespace FL
open PySem PySem.Spec PyProof.Rows L2 StX
variable {T : Tab} {Φ : Fs × Fx} {k : Nat}
section
variable {K : PySem.W.Frag} {G H Gf : Hp} {N : List Addr} {rs ts : List Root}
mutual
theorem Rep.domX : ∀ {v : V} {d : D} {F : List Addr}, Rep K G H v d F → ∀ a ∈ F, ∀ fs, H a ≠ some (.xd fs)
  | _, _, _, .non => fun _ h => by simp at h
  | _, _, _, .bl b => fun _ h => by simp at h
  | _, _, _, .int i => fun _ h => by simp at h
  | _, _, _, .str x => fun _ h => by simp at h
  | _, _, _, .hole v => fun _ h => by simp at h
  | _, _, _, .dic s => fun _ h => by simp at h
  | _, _, _, .any v => fun _ h => by simp at h
  | _, _, _, .tup s r => Reps.domX r
  | _, _, _, .lstF s r => fun _ h => by simp at h
  | _, _, _, .lstS s r => fun _ h => by simp at h
  | _, _, _, .lstO (a := a) s r => fun b h => by
    rcases List.mem_cons.mp h with e | h
    · subst e; intro fs z; rw [s] at z; cases z
    · exact Reps.domX r b h
  | _, _, _, .objS s l r => fun _ h => by simp at h
  | _, _, _, .objO (a := a) s l r => fun b h => by
    rcases List.mem_cons.mp h with e | h
    · subst e; intro fs z; rw [s] at z; cases z
    · exact Reps.domX r b h
theorem Reps.domX : ∀ {vs : List V} {ds : List D} {F : List Addr}, Reps K G H vs ds F → ∀ a ∈ F, ∀ fs, H a ≠ some (.xd fs)
  | _, _, _, .nil => fun _ h => by simp at h
  | _, _, _, .cons r t => fun b h => (List.mem_append.mp h).elim (fun z => Rep.domX r b z) fun z => Reps.domX t b z
end
theorem RepO.domX {F : List Addr} (r : RepO K G H rs F) : ∀ a ∈ F, ∀ fs, H a ≠ some (.xd fs) := by
  induction r with
  | nil => exact fun _ h => by simp at h
  | skip _ ih => exact ih
  | cons x _ ih => exact fun b h => (List.mem_append.mp h).elim (fun z => x.domX b z) fun z => ih b z
/-- an exception's dict is kept, too -/
theorem SR.keepX {dd : Addr} {fs : List (Str × V)} (h : SR K Gf N H rs) (e : H dd = some (.xd fs)) : SR K (upd Gf dd (.xd fs)) N H rs := by
  obtain ⟨n, F, nd, r, g⟩ := h
  refine ⟨fun a ha => ?_, F, nd, r, fun a o ea => ?_⟩
  · by_cases z : a = dd
    · subst z; exact ⟨_, upd_same⟩
    · rw [upd_ne z]; exact n a ha
  · by_cases z : a = dd
    · subst z
      rw [upd_same] at ea
      cases ea
      exact hid_some.mpr ⟨fun m => r.domX a m fs e, e⟩
    · rw [upd_ne z] at ea
      exact g a o ea
theorem SR.less {Gf' : Hp} (h : SR K Gf' N H rs) (n : ∀ a ∈ N, ∃ o, Gf a = some o) (l : Le Gf Gf') : SR K Gf N H rs := by
  obtain ⟨_, F, nd, r, g⟩ := h
  exact ⟨n, F, nd, r, l.trans g⟩
theorem SR.le_keepX {dd : Addr} {fs : List (Str × V)} (h : SR K Gf N H rs) (e : H dd = some (.xd fs)) : Le Gf (upd Gf dd (.xd fs)) := fun a o ea => by
  by_cases z : a = dd
  · subst z
    have := h.stands ea
    rw [e] at this
    cases this
    exact upd_same
  · rw [upd_ne z]; exact ea
end
/-! ### one suite -/
def tSu (T : Tab) (Φ : Fs × Fx) (K : PySem.W.Frag) (io : List Nat) (sl : Option Nat) (s : SS) (a : Addr) (cls : Value) (d : Option Addr) : TS := fun D σ H => ∃ x Gf N ts ρ, σ.length = ρ.length ∧ SR K Gf N H (ts ++ σ.zip ρ) ∧ ZIn T K sl a cls d x Gf ts σ ∧
  ∃ fl, exSS (Gam T Φ) x ρ s = some fl ∧ FlowOk K Gf N ts io (fun _ _ _ _ => False) σ D fl
section
variable {C : SC} {io : List Nat} {sl : Option Nat} {a : Addr} {oe : Obj} {cls : Value} {d : Option Addr}
theorem sSS (s : SS) {Y : Cx} (z : XZ T Φ k C Y a oe cls d) {st : Stmt} (h : ckSS T io C sl s st = true) : PSs Y [st] (tSu T Φ Y.K io sl s a cls d) := by
  refine pss_imp (t := tSeq (tSu T Φ Y.K io sl s a cls d) tNext) (pss_cons ?_ pss_nil) fun D σ H q => q
  cases s with
  | set i e =>
    simp only [ckSS] at h
    split at h
    · rename_i x0 p0 v p1
      obtain ⟨h1, r1⟩ := ba2 h
      obtain ⟨h2, r2⟩ := ba2 r1
      obtain ⟨h3, r3⟩ := ba2 r2
      obtain ⟨h4, h5⟩ := ba2 r3
      have hio : i ∉ io := by simpa using h2
      refine ps_imp (ps_asg (sSE e z h5) (z.c.store h1) (swaps_of h3 : swapsWith v (some (.Name x0 p0)) p1.line Y.env = pure false) (by cases v <;> rfl) rfl) fun D σ H ⟨x, Gf, N, ts, ρ, hl, hS, zi, fl, e, q⟩ => ?_
      · simp only [exSS] at e
        obtain ⟨y, e1, e⟩ := bnd e
        obtain ⟨ρ1, e2, rfl⟩ := mpd e
        obtain ⟨hi, rfl⟩ := putS_some e2
        refine ⟨x, Gf, N, ts, ρ, hS, zi, y, e1, fun w H1 h1 => ?_⟩
        exact q _ _ ((Same.set (is := [i]) (by simp)).agree fun j hj => by simp at hj; subst hj; exact hio) (by rw [List.length_set, len_set]; exact hl) (h1.store hl hi)
    · cases h
  | ret e =>
    simp only [ckSS] at h
    split at h
    · refine ps_imp (ps_ret (sSE e z h)) fun D σ H ⟨x, Gf, N, ts, ρ, hl, hS, zi, fl, e, q⟩ => ?_
      simp only [exSS] at e
      obtain ⟨y, e1, rfl⟩ := mpd e
      exact ⟨x, Gf, N, ts, ρ, hS, zi, y, e1, fun w H1 h1 => q w σ H1 .refl hl h1⟩
    · cases h
/-! ### the clauses -/
def clOf (T : Tab) (Φ : Fs × Fx) (K : PySem.W.Frag) (io : List Nat) (h : Hd) : FX.Clause := ⟨.ref (He.ga K h.c), h.sl, tSu T Φ K io h.sl h.s⟩
structure HdOk (T : Tab) (io : List Nat) (n : Nat) (h : Hd) : Prop where
  xt : ∃ q ∈ T.xt, q.1 = h.c
  sl : ∀ i, h.sl = some i → i < n ∧ i ∉ io
  ne : ∀ i e, h.s = .set i e → h.sl ≠ some i
theorem slots_in {K : PySem.W.Frag} {Gf H : Hp} {N : List Addr} {ts : List Root} {σ : L2.St} {ρ : Env} (sl : Option Nat) (a : Addr) (hl : σ.length = ρ.length) (h : SR K Gf N H (ts ++ σ.zip ρ)) :
    SR K Gf N H (ts ++ (FX.inSlot sl a σ).zip (slOut ρ sl)) ∧ (FX.inSlot sl a σ).length = (slOut ρ sl).length := by
  cases sl with
  | none => exact ⟨h, hl⟩
  | some i =>
    refine ⟨?_, by simp [FX.inSlot, slOut, hl]⟩
    show SR K Gf N H (ts ++ (σ.set i (some (.ref a))).zip (ρ.set i none))
    by_cases hi : i < σ.length
    · refine SR.slots (h.forget hi) (by simp) fun j => ?_
      by_cases hj : i = j
      · subst hj; exact .inl (List.getElem?_set_self (by omega))
      · exact .inr (List.getElem?_set_ne hj)
    · rw [List.set_eq_of_length_le (by omega), List.set_eq_of_length_le (by omega)]; exact h
theorem hd_ok {K : PySem.W.Frag} {Gf : Hp} {N : List Addr} {ts : List Root} {io : List Nat} {W : WX} {σ σ' : L2.St} {D : Ends} {x : Exn} {ρ1 : Env} {fl : Flow} {cls : Value} {d : Option Addr} {H' : Hp} {n : Nat}
    (xe : ∀ q ∈ T.xt, ∀ r ∈ T.xt, PySem.W.exmOne K (.ref (He.ga K q.1)) (.ref (He.ga K r.1)) = some (q.2.contains r.1)) (hn : σ.length = n) : ∀ (hs : List Hd), (∀ h ∈ hs, HdOk T io n h) → exHd (Gam T Φ) x ρ1 hs = some fl → FlowOk K Gf N ts io W σ D fl → Agree io σ σ' → σ'.length = ρ1.length → XSR K Gf N H' cls d x (ts ++ σ'.zip ρ1) →
    FX.wCl K W D (hs.map (clOf T Φ K io)) cls d σ' H'
  | [], _, e, q, ag, l, xs => by
    simp only [exHd] at e
    cases e
    exact q cls d σ' H' ag l xs
  | h :: hs, ok, e, q, ag, l, xs => by
    simp only [exHd] at e
    obtain ⟨b, e1, e⟩ := bnd e
    obtain ⟨q0, hq0, eq0, eb⟩ := isX_some e1
    have ho := ok h (by simp)
    obtain ⟨r0, hr0, er0⟩ := ho.xt
    have ecl := xs.1
    have em := xe q0 hq0 r0 hr0
    rw [eq0, er0, eb] at em
    refine ⟨b, by rw [ecl]; exact em, fun eb1 a na => ?_, fun eb1 => ?_⟩
    · subst eb1
      rw [if_pos rfl] at e
      have zi0 : ∀ (Gf' : Hp) (ts' : List Root), (match x.a with
          | none => d = none
          | some (f, y) => ∃ dd v, d = some dd ∧ Gf' dd = some (.xd [(f, v)]) ∧ tmp v (share y) ∈ ts') → ZIn T K h.sl a cls d x Gf' ts' (FX.inSlot h.sl a σ') := fun Gf' ts' zf => ⟨ecl, ⟨q0, hq0, eq0⟩, fun i ei => by
          have := (ho.sl i ei).1
          rw [ei]
          show (σ'.set i (some (.ref a)))[i]? = _
          rw [List.getElem?_set_self (by rw [ag.1]; omega)], zf⟩
      have agI : Agree io σ (FX.inSlot h.sl a σ') := by
        cases es : h.sl with
        | none => exact ag
        | some i =>
          exact ag.trans ⟨by simp [FX.inSlot], fun j hj => by
            show (σ'.set i _)[j]? = _
            exact List.getElem?_set_ne fun (z : i = j) => (ho.sl i es).2 (z ▸ hj)⟩
      have fin : ∀ (Gf' : Hp) (ex : List Root), SR K Gf' N H' ((ex ++ ts) ++ σ'.zip ρ1) → (∀ a ∈ N, ∃ o, Gf a = some o) → Le Gf Gf' → ZIn T K h.sl a cls d x Gf' (ex ++ ts) (FX.inSlot h.sl a σ') → tSu T Φ K io h.sl h.s a cls d (FX.endsOf h.sl D) (FX.inSlot h.sl a σ') H' := by
        intro Gf' ex hS nn le zi
        obtain ⟨hS', l'⟩ := slots_in h.sl a l hS
        refine ⟨x, Gf', N, ex ++ ts, slOut ρ1 h.sl, l', hS', zi, fl, e, ?_⟩
        cases hss : h.s with
        | set j se =>
          rw [hss] at e
          simp only [exSS] at e
          obtain ⟨y, e3, e⟩ := bnd e
          obtain ⟨ρ2, e4, rfl⟩ := mpd e
          obtain ⟨hj, rfl⟩ := putS_some e4
          intro σ3 H3 ag3 l3 h3
          have h4 : SR K Gf N H3 (ts ++ σ3.zip ((slOut ρ1 h.sl).set j (some y))) := by
            rw [List.append_assoc] at h3
            exact (h3.dropL).less nn le
          cases es : h.sl with
          | none =>
            rw [es] at h4 l3 ag3 agI
            have := q σ3 H3 (by rw [es] at *; exact agI.trans ag3) (by rw [es]; exact l3) (by rw [es]; exact h4)
            exact this
          | some i =>
            have hne : i ≠ j := fun z => ho.ne j se hss (by rw [es, z])
            have := q (σ3.set i none) H3 ((agI.trans ag3).trans ⟨by simp, fun m hm => List.getElem?_set_ne fun (z : i = m) => (ho.sl i es).2 (z ▸ hm)⟩) (by simpa using l3) (by
              refine SR.slots h4 (by simp) fun m => ?_
              by_cases hm : i = m
              · subst hm
                refine .inl ?_
                rw [List.getElem?_set_ne (Ne.symm hne), es]
                show (ρ1.set i none)[i]? = _
                exact List.getElem?_set_self (by have := (ho.sl i es).1; rw [← l, ag.1]; omega)
              · exact .inr (List.getElem?_set_ne hm))
            exact this
        | ret se =>
          rw [hss] at e
          simp only [exSS] at e
          obtain ⟨y, e3, rfl⟩ := mpd e
          intro v σ3 H3 ag3 l3 h3
          have h4 : SR K Gf N H3 (tmp v y :: (ts ++ σ3.zip (slOut ρ1 h.sl))) := by
            have h5 : SR K Gf' N H3 (ex ++ tmp v y :: (ts ++ σ3.zip (slOut ρ1 h.sl))) := by
              rw [List.append_assoc] at h3
              exact SR.fromFront h3
            exact (h5.dropL).less nn le
          have := q v σ3 H3 (agI.trans ag3) l3 h4
          cases es : h.sl <;> exact this
      obtain ⟨c0, o0⟩ := x
      cases o0 with
      | none =>
        obtain ⟨_, hd, hS⟩ := xs
        exact fin Gf [] hS hS.1 Le.refl (zi0 Gf ts hd)
      | some p =>
        obtain ⟨_, dd, v, hd, ex, hS⟩ := xs
        refine fin (upd Gf dd (.xd [(p.1, v)])) [tmp v (share p.2)] ((hS.share1).keepX ex) hS.1 (hS.le_keepX ex) (zi0 _ _ ⟨dd, v, hd, upd_same, by simp⟩)
    · subst eb1
      rw [if_neg (by decide)] at e
      exact hd_ok xe hn hs (fun g hg => ok g (by simp [hg])) e q ag l xs
theorem pxs_try {X : Cx} {io : List Nat} {W : WX} {body : List Stmt} {h0 : ExceptHandler} {hds : List ExceptHandler} {pos : Pos} {xb : Env → Option Flow} {hs : List Hd} (hst : X.stack = X.env :: X.outer) (hfm : X.env.frame = some X.env.locals) (hN : X.N.Nodup) (tk : L2N.Takes X W)
    (xe : ∀ q ∈ T.xt, ∀ r ∈ T.xt, PySem.W.exmOne X.K (.ref (He.ga X.K q.1)) (.ref (He.ga X.K r.1)) = some (q.2.contains r.1))
    (hb : ∀ (W : WX) (pn : List (Addr × Obj)) (xe : Value → Shared → Prop), L2N.Takes (X.tr pn xe) W → PassesOwn (model X.prog X.w) X.A X.env xe → PSs (X.tr pn xe) body (tX X.K io W xb))
    (hh : FX.ClOk X (h0 :: hds) (hs.map (clOf T Φ X.K io))) (ok : ∀ h ∈ hs, HdOk T io X.N.length h) :
    PXS X io W (.Try body (h0 :: hds) [] [] pos) (fun ρ => (xb ρ).bind fun fl => match fl with
      | .ex x ρ1 => exHd (Gam T Φ) x ρ1 hs
      | fl => some fl) := ⟨fun pins s σ H Dn I q0 => by
  refine (FX.ps_try_mix (tb := fun W' => tX X.K io W' xb) hst hfm hN tk hb hh).run pins s σ H Dn I ?_
  have hl0 : σ.length = X.N.length := I.len
  obtain ⟨Gf, N, ts, ρ, hl, hS, fl, e, q⟩ := q0
  obtain ⟨f1, e1, e⟩ := bnd e
  refine ⟨Gf, N, ts, ρ, hl, hS, f1, e1, ?_⟩
  cases f1 with
  | nx ρ' => cases e; exact q
  | rt d ρ' => cases e; exact q
  | bk ρ' => cases e; exact q
  | ct ρ' => cases e; exact q
  | ex x ρ1 => exact fun cls d σ' H' ag l xs => hd_ok xe hl0 hs ok e q ag l xs⟩
end
end FL

/-! F17: what is checked is so: statements, defs, the whole table. -/
namespace FL
open PySem PySem.Spec PyProof.Rows L2 StX
variable {T : Tab} {Φ : Fs × Fx} {k : Nat}
theorem asg_one {X : Cx} {tg : Expr} (h : noStar tg = true) : (assignEach [tg] X.env).map (·.2) = [assign tg X.env] := by
  cases tg <;> first | rfl | cases h
theorem ckTg_star {C : SC} {t : Tg} {e : Expr} (h : ckTg C t e = true) : noStar e = true := by
  cases t <;> cases e <;> first | rfl | cases h
theorem swapped_no {tg v : Expr} {env : PySem.Env} (h : (notTuple tg || notTuple v) = true) (hl : ∀ ts p, tg ≠ .List ts p) : swappedStores [tg] v env = pure none := by
  cases tg <;> cases v <;> first | rfl | (exact absurd rfl (hl _ _)) | (cases h; done)
theorem swapped_subs {o1 r1 o2 r2 v : Expr} {q1 q2 q : Pos} {k : Nat} {env : PySem.Env} : swappedStores [.Tuple [.Subscript o1 r1 q1, .Subscript o2 r2 q2] k q] v env = pure none := by
  cases v <;> first | rfl | (unfold swappedStores; simp; done) | (unfold swappedStores; simp; split <;> first | rfl | (split <;> rfl))
theorem slots_no {t : Tg} {io : List Nat} (h : t.slots.all (fun i => !(io.contains i)) = true) : ∀ i ∈ t.slots, i ∉ io := fun i hi z => by
  have := List.all_eq_true.mp h i hi
  simp at this
  exact this z
theorem sole_of {tg v : Expr} {l : Nat} {env : PySem.Env} (h : notComp v = true) : swapsWithSole [tg] v l env = pure false := by
  show swapsWith v (some tg) l env = pure false
  exact swaps_of h
theorem sole_sub {o r v : Expr} {q : Pos} {l : Nat} {env : PySem.Env} : swapsWithSole [.Subscript o r q] v l env = pure false := by
  show swapsWith v (some (.Subscript o r q)) l env = pure false
  cases v <;> rfl
theorem swaps_attr {o v : Expr} {f : Str} {q : Pos} {l : Nat} {env : PySem.Env} : swapsWith v (some (.Attribute o f q)) l env = pure false := by
  cases v <;> rfl
theorem assign_sub {o r : Expr} {pos : Pos} {env : PySem.Env} {v : Value} (h : notSlice r = true) : assign (.Subscript o r pos) env v = (do
    let ov ← holding [v] (eval o env)
    let iv ← holding [v, ov] (eval r env)
    standAt pos
    holding [v, ov, iv] (setItem ov iv v)
    release [v, ov, iv] []) := by
  cases r <;> first | rfl | cases h
theorem tI_unshr {K : PySem.W.Frag} {ea : Env → Option (D × Env)} {σ : L2.St} {H : Hp} {Q : VK} (h : tI K (fun ρ => (ea ρ).map fun p => (share p.1, p.2)) σ H Q) : tI K ea σ H Q := by
  obtain ⟨Gf, N, ts, ρ, hl, hs, p, e, q⟩ := h
  obtain ⟨p0, e1, rfl⟩ := mpd e
  exact ⟨Gf, N, ts, ρ, hl, hs, p0, e1, fun v H' h1 => q v H' h1.share1⟩
theorem tI_unbor {K : PySem.W.Frag} {ea : Env → Option (D × Env)} {σ : L2.St} {H : Hp} {Q : VK} (h : tI K (borE ea) σ H Q) : tI K ea σ H Q := by
  obtain ⟨Gf, N, ts, ρ, hl, hs, p, e, q⟩ := h
  obtain ⟨ρ', e1, hc, e2⟩ := borE_some e
  refine ⟨H, N, [], viewD ρ, by rw [view_len]; exact hl, hs.view, _, e1, fun v H' h1 => q v H' ?_⟩
  rw [e2]
  exact hs.unview h1 hc
theorem lc0 {C : SC} {el : Expr} {scope : Scope} {pos : Pos} (a : E) (h : ckE T C a (.ListComp el [] scope pos) = true) : False := by
  cases a with
  | shr a => exact lc0 a (by simpa only [ckE] using h)
  | bor a => exact lc0 a (by simpa only [ckE] using h)
  | plc pl => cases pl <;> simp [ckE, ckPl] at h
  | _ => simp [ckE] at h
/-- the pieces of a checked comprehension -/
theorem comp_ok {C : SC} {X : Cx} (p : XP T Φ k X) (x : XC C X) {el tg itr : Expr} {ifs : List Expr} {as : Int} {scope : Scope} {pos : Pos} (a : E) (h : ckE T C a (.ListComp el [⟨tg, itr, ifs, as⟩] scope pos) = true) :
    ∃ elt t it cond, as = 0 ∧ CompOk X (evE (Gam T Φ) elt) t (evIt (Gam T Φ) it) (evC (Gam T Φ) cond) el tg itr ifs scope (ownOf C t) ∧ ∀ σ H Q, tI X.K (evE (Gam T Φ) a) σ H Q → tI X.K (compE t (evIt (Gam T Φ) it) (evC (Gam T Φ) cond) (evE (Gam T Φ) elt)) σ H Q := by
  cases a with
  | shr a =>
    obtain ⟨elt, t, it, cond, q1, q2, q3⟩ := comp_ok p x a (by simpa only [ckE] using h)
    refine ⟨elt, t, it, cond, q1, q2, fun σ H Q z => q3 σ H Q (tI_unshr ?_)⟩
    have : evE (Gam T Φ) (.shr a) = fun ρ => (evE (Gam T Φ) a ρ).map fun p => (share p.1, p.2) := by funext ρ; simp only [evE]
    rw [← this]; exact z
  | bor a =>
    obtain ⟨elt, t, it, cond, q1, q2, q3⟩ := comp_ok p x a (by simpa only [ckE] using h)
    refine ⟨elt, t, it, cond, q1, q2, fun σ H Q z => q3 σ H Q (tI_unbor ?_)⟩
    have : evE (Gam T Φ) (.bor a) = borE (evE (Gam T Φ) a) := by funext ρ; simp only [evE]; rfl
    rw [← this]; exact z
  | comp elt t it cond =>
    simp only [ckE] at h
    obtain ⟨h1, h2⟩ := ba2 h
    obtain ⟨h2, h3⟩ := ba2 h2
    obtain ⟨h3, h4⟩ := ba2 h3
    obtain ⟨h4, h5⟩ := ba2 h4
    obtain ⟨h5, h6⟩ := ba2 h5
    obtain ⟨h6, h7⟩ := ba2 h6
    obtain ⟨h7, h8⟩ := ba2 h7
    refine ⟨elt, t, it, cond, of_decide_eq_true h1, ⟨of_decide_eq_true h4, by rw [x.hN, x.sc]; exact blkOk_by h3, sI it p x h5, fun s H D cl fp => pg_of (x.blk s H scope D cl fp) h6,
      fun s H D cl fp => (sC cond (p.blk s H scope _ fp) (x.blk s H scope D cl fp) h7).1, fun s H D cl fp => (sE elt (p.blk s H scope _ fp) (x.blk s H scope D cl fp) h8).px.pe, (sC cond (p.blk X.s_0 X.H_0 scope _ []) (x.blk X.s_0 X.H_0 scope 0 [] []) h7).2, (sE elt (p.blk X.s_0 X.H_0 scope _ []) (x.blk X.s_0 X.H_0 scope 0 [] []) h8).px.ln, h2⟩, fun σ H Q z => ?_⟩
    have : evE (Gam T Φ) (.comp elt t it cond) = compE t (evIt (Gam T Φ) it) (evC (Gam T Φ) cond) (evE (Gam T Φ) elt) := by funext ρ; simp only [evE]; rfl
    rw [← this]; exact z
  | plc pl => cases pl <;> simp [ckE, ckPl] at h
  | _ => simp [ckE] at h
/-- a checked comprehension with two fors, as what a name gets -/
theorem comp2_ok {C : SC} {X : Cx} (p : XP T Φ k X) (x : XC C X) {el tg itr tg1 itr1 : Expr} {ifs ifs1 : List Expr} {as as1 : Int} {scope : Scope} {pos : Pos} (a : E) (h : ckE T C a (.ListComp el [⟨tg, itr, ifs, as⟩, ⟨tg1, itr1, ifs1, as1⟩] scope pos) = true) :
    ∃ te : TE, (∀ σ H Q, tI X.K (evE (Gam T Φ) a) σ H Q → te σ H Q) ∧ ∀ (i : Nat) (y : Str) (py spos : Pos), X.N[i]? = some y → X.env.scope.names.lookup y = some .local → swapsWith (.ListComp el [⟨tg, itr, ifs, as⟩, ⟨tg1, itr1, ifs1, as1⟩] scope pos) (some (.Name y py)) spos.line X.env = pure true →
      PS X (.Assign [.Name y py] (.ListComp el [⟨tg, itr, ifs, as⟩, ⟨tg1, itr1, ifs1, as1⟩] scope pos) spos) (tAsg te (gName i)) := by
  cases a with
  | shr a =>
    obtain ⟨te, q3, q4⟩ := comp2_ok p x a (by simpa only [ckE] using h)
    refine ⟨te, fun σ H Q z => q3 σ H Q (tI_unshr ?_), q4⟩
    have : evE (Gam T Φ) (.shr a) = fun ρ => (evE (Gam T Φ) a ρ).map fun p => (share p.1, p.2) := by funext ρ; simp only [evE]
    rw [← this]; exact z
  | bor a =>
    obtain ⟨te, q3, q4⟩ := comp2_ok p x a (by simpa only [ckE] using h)
    refine ⟨te, fun σ H Q z => q3 σ H Q (tI_unbor ?_), q4⟩
    have : evE (Gam T Φ) (.bor a) = borE (evE (Gam T Φ) a) := by funext ρ; simp only [evE]; rfl
    rw [← this]; exact z
  | comp2 elt t1 it1 t2 it2 cond =>
    simp only [ckE] at h
    split at h
    · rename_i e0
      simp only [Expr.ListComp.injEq, List.cons.injEq, Comprehension.mk.injEq] at e0
      obtain ⟨rfl, ⟨⟨rfl, rfl, rfl, rfl⟩, ⟨rfl, rfl, rfl, rfl⟩, _⟩, rfl, rfl⟩ := e0
      obtain ⟨h1, r⟩ := ba2 h
      obtain ⟨h2, r⟩ := ba2 r
      obtain ⟨h3, r⟩ := ba2 r
      obtain ⟨h4, r⟩ := ba2 r
      obtain ⟨h5, r⟩ := ba2 r
      obtain ⟨h6, r⟩ := ba2 r
      obtain ⟨h7, r⟩ := ba2 r
      obtain ⟨h8, r⟩ := ba2 r
      obtain ⟨h9, r⟩ := ba2 r
      obtain ⟨h10, r⟩ := ba2 r
      obtain ⟨h11, h12⟩ := ba2 r
      have e1 := of_decide_eq_true h1
      have e2 := of_decide_eq_true h2
      subst e1 e2
      have sl := of_decide_eq_true h6
      have i1 := sI it1 p x h7
      have lli := (sI it2 (p.blk X.s_0 X.H_0 scope _ []) (x.blk X.s_0 X.H_0 scope 0 [] []) h9).ln
      have llc := (sC cond (p.blk X.s_0 X.H_0 scope _ []) (x.blk X.s_0 X.H_0 scope 0 [] []) h11).2
      have lle := (sE elt (p.blk X.s_0 X.H_0 scope _ []) (x.blk X.s_0 X.H_0 scope 0 [] []) h12).px.ln
      refine ⟨_, fun σ H Q q => ?_, fun i y py spos hy hyl hsw => ps_setLc2 (elt := el) (tg := tg) (iter := itr) (tg1 := tg1) (iter1 := itr1) (ifs := []) (ifs1 := ifs1) (scope := scope) (wi := tIt X.K (evIt (Gam T Φ) it1)) (wi1 := tIt X.K (evIt (Gam T Φ) it2)) (g := gT X.K t1) (g1 := gT X.K t2) (tt := tIT X.K fun ρ => some (true, ρ)) (tt1 := tIT X.K (evC (Gam T Φ) cond)) (te := tI X.K (evE (Gam T Φ) elt)) (own := ownOf2 C t1 t2) (vs1 := t2.slots) (pos := pos) x.calm x.nd hy hyl hsw i1.pi (by rw [x.hN, x.sc]; exact blkOk_by h5) (fun i hi => by rw [sl]; exact List.mem_append_right _ hi)
        (fun s H D cl fp => pg_of (x.blk s H scope D cl fp) h8) (fun s H D cl fp => pts_no)
        (fun s H D cl fp => (sI it2 (p.blk s H scope _ fp) (x.blk s H scope D cl fp) h9).pi) (fun s H D cl fp => pg_of (x.blk s H scope D cl fp) h10)
        (fun s H D cl fp => (sC cond (p.blk s H scope _ fp) (x.blk s H scope D cl fp) h11).1) (fun s H D cl fp => (sE elt (p.blk s H scope _ fp) (x.blk s H scope D cl fp) h12).px.pe) (folded_of h3 X.env) (folded_of h4)⟩
      have : evE (Gam T Φ) (.comp2 elt t1 it1 t2 it2 cond) = compE2 t1 t2 (evIt (Gam T Φ) it1) (evIt (Gam T Φ) it2) (evC (Gam T Φ) cond) (evE (Gam T Φ) elt) := by funext ρ; simp only [evE]; rfl
      rw [this] at q
      rw [sl]
      exact tI_comp2 i1.ln lli llc lle q
    · cases h
  | plc pl => cases pl <;> simp [ckE, ckPl] at h
  | _ => simp [ckE] at h
theorem swaps_false {v : Expr} {y : Str} {py : Pos} {l : Nat} {env : PySem.Env} (hk : env.kindOf y ≠ some .local) : swapsWith v (some (.Name y py)) l env = pure false := by
  have e : (env.kindOf y == some NameKind.local) = false := by simpa using hk
  cases v <;> first
    | rfl
    | (simp only [swapsWith, e]; simp; done)
    | (unfold swapsWith; simp only [e, Bool.and_false, Bool.false_and]; rfl)
theorem set_ok {io : List Nat} {C : SC} {X : Cx} {W : WX} (p : XP T Φ k X) (x : XC C X) (hkd : X.env.scope.kind = .function) {t : Tg} {e : E} {tg v : Expr} {pos : Pos} (h1 : ∀ i ∈ t.slots, i ∉ io) (h2 : ckTg C t tg = true) (h3 : ckE T C e v = true) (h4 : ((notComp v && (notTuple tg || notTuple v)) || compAsg C tg v) = true) :
    PXS X io W (.Assign [tg] v pos) (fun ρ => (evE (Gam T Φ) e ρ).bind fun p => (bindT t p.1 p.2).map .nx) := by
  have ie := sE e p x h3
  rcases Bool.or_eq_true_iff.mp h4 with h | h
  · obtain ⟨h5, h6⟩ := ba2 h
    refine pxs_set h1 ie.px.ln (fun σ H Q q => q) (ps_asg ie.px.pe (pg_of x h2) ?_ (swapped_no h6 ?_) (asg_one (ckTg_star h2)))
    · show swapsWith v (some tg) _ _ = pure false
      exact swaps_of h5
    · intro ts q z
      subst z
      cases t <;> simp [ckTg] at h2
  · unfold compAsg at h
    split at h
    · rename_i y py el gs scope cpos
      obtain ⟨hg1, h⟩ := ba2 h
      have hg1 := of_decide_eq_true hg1
      cases t with
      | names is => simp [ckTg] at h2
      | name i =>
        by_cases hloc : isLoc C.sc y = true
        · rw [if_pos hloc] at h
          obtain ⟨h5, h6⟩ := ba2 h
          match gs, h3, hg1 with
          | [⟨tg, itr, ifs, as⟩], h3, _ =>
            obtain ⟨elt, t, it, cond, rfl, q, qz⟩ := comp_ok p x e h3
            have h2' : storeOk C i y = true := by simpa [ckTg] using h2
            obtain ⟨s1, s2⟩ := ba2 h2'
            have hy : X.N[i]? = some y := by rw [x.hN]; exact of_decide_eq_true s1
            have hyl : X.env.scope.names.lookup y = some .local := by rw [x.sc]; exact of_decide_eq_true hloc
            refine pxs_set (t := .name i) (te := tLc (tIt X.K (evIt (Gam T Φ) it)) (gT X.K t) (tIT X.K (evC (Gam T Φ) cond)) (tI X.K (evE (Gam T Φ) elt)) ((ownOf C t).map (·.2))) h1 ie.px.ln (fun σ H Q z => ?_) ?_
            · rw [q.sl]
              exact tI_comp q.i.ln q.lt q.le (qz σ H Q z)
            · exact ps_setLc (own := ownOf C t) x.calm x.nd hy hyl (sw_true hkd hyl h5 (by simpa using h6)) q.i.pi q.ok q.g q.t q.e (folded_of q.st X.env)
          | [], h3, _ => exact (lc0 e h3).elim
          | [⟨tg, itr, ifs, as⟩, ⟨tg1, itr1, ifs1, as1⟩], h3, _ =>
            obtain ⟨te, qz, q⟩ := comp2_ok p x e h3
            have h2' : storeOk C i y = true := by simpa [ckTg] using h2
            obtain ⟨s1, s2⟩ := ba2 h2'
            have hy : X.N[i]? = some y := by rw [x.hN]; exact of_decide_eq_true s1
            have hyl : X.env.scope.names.lookup y = some .local := by rw [x.sc]; exact of_decide_eq_true hloc
            exact pxs_set (t := .name i) (te := te) h1 ie.px.ln qz (q i y py pos hy hyl (sw_true hkd hyl h5 (by simpa using h6)))
          | _ :: _ :: _ :: _, h3, hg => simp at hg
        · have h2' : storeOk C i y = true := by simpa [ckTg] using h2
          obtain ⟨s1, s2⟩ := ba2 h2'
          have hk : X.env.kindOf y ≠ some .local := by
            intro z
            apply hloc
            have z : X.env.scope.names.lookup y = some .local := z
            rw [x.sc] at z
            exact decide_eq_true z
          refine pxs_set h1 ie.px.ln (fun σ H Q q => q) (ps_asg ie.px.pe (pg_of x h2) ?_ (by rfl) (by rfl))
          show swapsWith (.ListComp el gs scope cpos) (some (.Name y py)) pos.line X.env = pure false
          exact swaps_false hk
    · cases h
theorem aug_add : ∀ x y z, augD .add x y = some z → ∃ a b, x = .int a ∧ y = .int b ∧ z = .int ((fun i j => i + j) a b) := by
  intro x y z h
  cases x <;> cases y <;> simp only [augD, reduceCtorEq] at h
  cases h
  exact ⟨_, _, rfl, rfl, rfl⟩
theorem aug_sub : ∀ x y z, augD .sub x y = some z → ∃ a b, x = .int a ∧ y = .int b ∧ z = .int ((fun i j => i - j) a b) := by
  intro x y z h
  cases x <;> cases y <;> simp only [augD, reduceCtorEq] at h
  cases h
  exact ⟨_, _, rfl, rfl, rfl⟩
theorem par_stores {X : Cx} {x y : Str} {px py pt : Pos} {kt k2 : Nat} {p2 : Pos} {a b : Expr} (hk : X.env.scope.kind = .function) (hx : X.env.scope.names.lookup x = some .local) (hy : X.env.scope.names.lookup y = some .local) (h : parOk x px y py a b = true) (hs : [a, b].all noStar = true) :
    swappedStores [.Tuple [.Name x px, .Name y py] kt pt] (.Tuple [a, b] k2 p2) X.env = pure (some [x, y]) := by
  obtain ⟨h1, h⟩ := ba2 h
  obtain ⟨h2, h⟩ := ba2 h
  obtain ⟨h3, h4⟩ := ba2 h
  have hxy : (y == x) = false := by
    cases e : y == x with
    | false => rfl
    | true =>
      have := eq_of_beq e
      subst this
      simp at h1
  have hb : (X.env.blockKind != .function) = false := by
    have : X.env.blockKind = .function := by unfold PySem.Env.blockKind; rw [hk]; rfl
    rw [this]; rfl
  simp only [List.all_cons, List.all_nil, Bool.and_true, Bool.and_eq_true] at hs
  obtain ⟨s1, s2⟩ := hs
  have k1 : X.env.kindOf x = some .local := hx
  have k2 : X.env.kindOf y = some .local := hy
  have h3' : [a, b].all (foldedForSure 8) = false := by cases e : [a, b].all (foldedForSure 8) <;> first | rfl | (rw [e] at h3; cases h3)
  have h4' : [a, b].all (constantsAlone 8) = false := by cases e : [a, b].all (constantsAlone 8) <;> first | rfl | (rw [e] at h4; cases h4)
  have el : (py.line == px.line) = true := h2
  unfold swappedStores
  simp only []
  refine (if_neg (by rw [hb]; simp)).trans ((if_neg ?_).trans ((if_neg ?_).trans ((if_neg (by rw [h3']; simp)).trans ((if_neg (by rw [h4']; simp)).trans ?_))))
  · intro z
    simp only [List.any_cons, List.any_nil, Bool.or_false, Bool.or_eq_true] at z
    rcases z with z | z
    · cases a <;> first | (cases s1; done) | (cases z; done)
    · cases b <;> first | (cases s2; done) | (cases z; done)
  · simp [k1, k2, Expr.pos, eq_of_beq h2, List.eraseDups_cons, hxy]
  · simp [k1, k2, Expr.pos, eq_of_beq h2]
/-- what a statement knows of its frame -/
structure XS (T : Tab) (X : Cx) (W : WX) : Prop where
  hk : X.env.scope.kind = .function
  hp : PassesOwn (model X.prog X.w) X.A X.env X.xe
  st : X.stack = X.env :: X.outer
  fr : X.env.frame = some X.env.locals
  tk : L2N.Takes X W
  isn : ∀ f ∈ T.isn, ∀ (a : Addr) (oe : Obj) (pn : List (Addr × Obj)) (cls : Value) (d : Option Addr), L2N.Zn cls d oe → (∃ fv, oe.data = .fields fv) → ∀ (x : Str) (e : Expr) (te : TE) (q pos : Pos), (T.fns[f]?).map (·.at_) = some (x, none) → Gl (X.suite a ((a, oe) :: pn)) x → (x == ("__debug__" : Str)) = false → noStar e = true → PE (X.suite a ((a, oe) :: pn)) e te →
    PE (X.suite a ((a, oe) :: pn)) (.Call (.Name x q) [e] [] pos) (fun σ H Q => te σ H fun v H1 => ∃ b, intV v = some b ∧ Q (.bl b) H1)
theorem XP.tr {X : Cx} (p : XP T Φ k X) (pn : List (Addr × Obj)) (xe : Value → Shared → Prop) : XP T Φ k (X.tr pn xe) := ⟨p.room, p.cls, p.fns, p.fin, p.ar, p.arX, p.glo, p.mth, p.mak, p.xg, p.x0, p.x1, p.xe, p.xk, p.xn, p.xv, p.oc, p.eqc, p.free⟩
theorem XC.tr {C : SC} {X : Cx} (c : XC C X) (pn : List (Addr × Obj)) (xe : Value → Shared → Prop) : XC C (X.tr pn xe) := ⟨⟨c.hN, c.sc, c.fn, c.nd⟩, c.calm⟩
theorem hds_ok {io : List Nat} {C : SC} {X : Cx} {W : WX} (p : XP T Φ k X) (x : XC C X) (w : XS T X W) : ∀ {hs : List Hd} {hds : List ExceptHandler}, ckHds T io C hs hds = true → FX.ClOk X hds (hs.map (clOf T Φ X.K io)) ∧ ∀ h ∈ hs, HdOk T io X.N.length h
  | [], [], _ => ⟨.nil, fun _ h => by simp at h⟩
  | [], _ :: _, h => by simp [ckHds] at h
  | _ :: _, [], h => by simp [ckHds] at h
  | h :: hs, e :: es, hc => by
    simp only [ckHds] at hc
    obtain ⟨h1, h2⟩ := ba2 hc
    obtain ⟨r1, r2⟩ := hds_ok p x w h2
    unfold ckHd at h1
    split at h1
    · rename_i x0 p0 nm st p1
      obtain ⟨c1, c⟩ := ba2 h1
      obtain ⟨c2, c⟩ := ba2 c
      obtain ⟨c3, c⟩ := ba2 c
      obtain ⟨c4, c5⟩ := ba2 c
      have e1 := of_decide_eq_true c1
      obtain ⟨q0, hq0, eq0⟩ := any_mem c5
      have eq0 := of_decide_eq_true eq0
      obtain ⟨g1, g2⟩ := x.gl c2
      have hm := (p.xg q0 hq0).1
      rw [eq0] at hm
      have slf : ∀ i, h.sl = some i → ∃ n, nm = some n ∧ X.N[i]? = some n ∧ X.env.kindOf n = some .local ∧ i ∉ io := fun i ei => by
        rw [ei] at c3
        cases nm with
        | none => simp [slB] at c3
        | some n =>
          simp only [slB] at c3
          obtain ⟨s1, s2⟩ := ba2 c3
          obtain ⟨s2, s3⟩ := ba2 s2
          refine ⟨n, rfl, by rw [x.hN]; exact of_decide_eq_true s1, ?_, by simpa using s3⟩
          show X.env.scope.names.lookup n = _
          rw [x.sc]; exact of_decide_eq_true s2
      refine ⟨.cons (cv := .ref (He.ga X.K h.c)) (sl := h.sl) (rd := tSu T Φ X.K io h.sl h.s) ⟨g1, g2, .inl (by rw [← e1]; exact hm)⟩ ?_ (fun a oe cls d pn hz hf => ?_) r1, fun g hg => ?_⟩
      · cases es : h.sl with
        | none =>
          rw [es] at c3
          cases nm with
          | none => trivial
          | some n => simp [slB] at c3
        | some i =>
          obtain ⟨n, rfl, s1, s2, _⟩ := slf i es
          exact ⟨s1, s2⟩
      · exact sSS (T := T) (Φ := Φ) (k := k) (C := C) (Y := X.suite a ((a, oe) :: pn)) h.s ⟨⟨x.hN, x.sc, x.fn, x.nd⟩, List.mem_cons_self .., hz, hf, p.xg, p.xk, p.xn, p.xv, p.free _ (by decide +kernel), fun f hf2 y e te q pos a1 a2 a3 a4 => by
          obtain ⟨b1, b2⟩ := x.gl a2
          exact w.isn f hf2 a oe pn cls d hz hf y e te q pos a1 b1 b2 a3 a4⟩ c4
      · rcases List.mem_cons.mp hg with rfl | hg
        · refine ⟨⟨q0, hq0, eq0.trans e1⟩, fun i ei => ?_, fun i e2 es z => ?_⟩
          · obtain ⟨n, _, s1, _, s3⟩ := slf i ei
            exact ⟨(List.getElem?_eq_some_iff.mp s1).1, s3⟩
          · rw [es] at c4
            simp only [ckSS] at c4
            split at c4
            · obtain ⟨_, d1⟩ := ba2 c4
              obtain ⟨_, d1⟩ := ba2 d1
              obtain ⟨_, d1⟩ := ba2 d1
              obtain ⟨d2, _⟩ := ba2 d1
              rw [z] at d2
              simp at d2
            · cases c4
        · exact r2 g hg
    · cases h1
mutual
theorem sS : ∀ (s : S) {io : List Nat} {C : SC} {X : Cx} {W : WX}, XP T Φ k X → XC C X → XS T X W → ∀ {st : Stmt}, ckS T io C s st = true → PXS X io W st (exS (Gam T Φ) s)
  | .set t e, io, C, X, W, p, x, w, st, h => by
    simp only [ckS] at h
    split at h
    · obtain ⟨h1, h2⟩ := ba2 h
      obtain ⟨h2, h3⟩ := ba2 h2
      obtain ⟨h3, h4⟩ := ba2 h3
      exact pxs_cg (set_ok p x w.hk (slots_no h1) h2 h3 h4) fun ρ => by simp only [exS]
    · cases h
  | .setI i b e, io, C, X, W, p, x, w, st, h => by
    simp only [ckS] at h
    split at h
    · obtain ⟨h1, h2⟩ := ba2 h
      obtain ⟨h2, h3⟩ := ba2 h2
      obtain ⟨h5, h6⟩ := ba2 h3
      have ib := sE b p x h5
      have ie := sE e p x h6
      exact pxs_cg (pxs_setI ie.px.ln ib.px.ln (ps_asg ie.px.pe (pg_sub (x.var h1) ib.px.pe set_list fun v => assign_sub h2) (sole_sub) (swapped_no (by rfl) (fun ts q z => by cases z)) (by rfl))) fun ρ => by simp only [exS]
    · cases h
  | .setF i f e, io, C, X, W, p, x, w, st, h => by
    simp only [ckS] at h
    split at h
    · obtain ⟨h1, h2⟩ := ba2 h
      obtain ⟨h2, h4⟩ := ba2 h2
      have e1 := of_decide_eq_true h2
      subst e1
      have ie := sE e p x h4
      exact pxs_cg (pxs_setF p.cls ie.px.ln (ps_fld (x.var h1) ie.px.pe swaps_attr)) fun ρ => by simp only [exS]
    · cases h
  | .aug i op e, io, C, X, W, p, x, w, st, h => by
    simp only [ckS] at h
    split at h
    · rename_i zx zp zo zv zq
      obtain ⟨h1, h2⟩ := ba2 h
      obtain ⟨h2, h3⟩ := ba2 h2
      obtain ⟨h3, h4⟩ := ba2 h3
      have ie := sE e p x h4
      have hio : i ∉ io := by simpa using h2
      obtain ⟨s1, s2⟩ := ba2 h1
      obtain ⟨s2, s3⟩ := ba2 s2
      have hy : X.N[i]? = some zx := by rw [x.hN]; exact of_decide_eq_true s1
      have hl : Loc X.env.scope zx := by rw [x.sc]; exact locB_ok s2
      have hf : X.fn zx = true ∨ X.env.scope.names.lookup zx = some .local := by
        rcases Bool.or_eq_true_iff.mp s3 with h | h
        · exact .inl (by rw [x.fn]; exact h)
        · exact .inr (by rw [x.sc]; exact of_decide_eq_true h)
      rcases Bool.or_eq_true_iff.mp h3 with h | h
      · obtain ⟨q1, q2⟩ := ba2 h
        have e1 := of_decide_eq_true q1
        have e2 := of_decide_eq_true q2
        subst e1 e2
        exact pxs_cg (pxs_aug hio aug_add ie.px.ln (ps_aug x.nd hy hl ie.px.pe ip_add hf)) fun ρ => by simp only [exS]
      · obtain ⟨q1, q2⟩ := ba2 h
        have e1 := of_decide_eq_true q1
        have e2 := of_decide_eq_true q2
        subst e1 e2
        exact pxs_cg (pxs_aug hio aug_sub ie.px.ln (ps_aug x.nd hy hl ie.px.pe ip_sub hf)) fun ρ => by simp only [exS]
    · cases h
  | .setP pl ix e, io, C, X, W, p, x, w, st, h => by
    simp only [ckS] at h
    split at h
    · obtain ⟨h1, h2⟩ := ba2 h
      obtain ⟨h2, h3⟩ := ba2 h2
      obtain ⟨h3, h4⟩ := ba2 h3
      have ie := sE e p x h4
      exact pxs_cg (pxs_setP ie.px.ln (ps_asg ie.px.pe (pg_sub (x.pl h2) (x.ix h3) set_list fun v => assign_sub h1) (sole_sub) (swapped_no (by rfl) (fun ts q z => by cases z)) (by rfl))) fun ρ => by simp only [exS]; rfl
    · cases h
  | .par is es, io, C, X, W, p, x, w, st, h => by
    simp only [ckS] at h
    split at h
    · split at h
      · rename_i _ i j _ zx px zy py kt pt a b k2 p2 zq
        obtain ⟨h1, h⟩ := ba2 h
        obtain ⟨h2, h⟩ := ba2 h
        obtain ⟨h3, h⟩ := ba2 h
        obtain ⟨h4, h⟩ := ba2 h
        obtain ⟨h5, h⟩ := ba2 h
        obtain ⟨h6, h⟩ := ba2 h
        obtain ⟨h7, h⟩ := ba2 h
        obtain ⟨h8, h9⟩ := ba2 h
        have hij : i ≠ j := of_decide_eq_true h5
        obtain ⟨ies, _⟩ := sPs es p x h9
        have hx : X.N[i]? = some zx := by rw [x.hN]; exact of_decide_eq_true (ba2 h1).1
        have hy : X.N[j]? = some zy := by rw [x.hN]; exact of_decide_eq_true (ba2 h2).1
        have lx : X.env.scope.names.lookup zx = some .local := by rw [x.sc]; exact of_decide_eq_true h3
        have ly : X.env.scope.names.lookup zy = some .local := by rw [x.sc]; exact of_decide_eq_true h4
        have hall := ckPs_all h9
        refine pxs_cg (pxs_par hij (by simpa using h6) (by simpa using h7) ies.ln (ps_par x.calm x.nd hx hy hij lx ly ies.pa (par_stores w.hk lx ly h8 hall))) fun ρ => by simp only [exS]
      · cases h
    · cases h
  | .mutN i op es, io, C, X, W, p, x, w, st, h => by
    simp only [ckS] at h
    split at h
    · rename_i zx zp m ap xs cp sp
      obtain ⟨h6, r0⟩ := ba2 h
      obtain ⟨h1, r1⟩ := ba2 r0
      obtain ⟨h2, r2⟩ := ba2 r1
      obtain ⟨h3, r3⟩ := ba2 r2
      obtain ⟨h4, r4⟩ := ba2 r3
      obtain ⟨h5, h7⟩ := ba2 r4
      clear h r0 r1 r2 r3 r4
      have e1 := of_decide_eq_true h1
      subst e1
      have ipl := x.var (p := zp) h6
      obtain ⟨ies, _⟩ := sPs es p x h7
      have hall := ckPs_all h7
      have hlen : xs.length < 30 := of_decide_eq_true h4
      have hpos : 0 < xs.length := of_decide_eq_true h5
      have hev : ∀ ρ, exS (Gam T Φ) (.mutN i op es) ρ = mutNE i op (evEs (Gam T Φ) es) ρ := fun ρ => by simp only [exS]; rfl
      cases xs with
      | nil => simp at hpos
      | cons e0 xs =>
        have hs0 : noStar e0 = true := by rw [List.all_cons, Bool.and_eq_true] at hall; exact hall.1
        have hs1 : xs.all noStar = true := by rw [List.all_cons, Bool.and_eq_true] at hall; exact hall.2
        have hfew : ((backTo cp (starEach (e0 :: xs) X.env)).all (fun x => !x.1) && (backToKw cp (keywordEach [] X.env)).all (fun x => x.1.isSome) && decide ((e0 :: xs).length + ([] : List Keyword).length + (if ([] : List Keyword).isEmpty then 0 else 1) < 30)) = true := by
          rw [all_no (by rw [List.all_cons, hs0, hs1]; rfl)]
          show (true && (true && decide ((e0 :: xs).length + 0 + 0 < 30))) = true
          rw [Bool.true_and, Bool.true_and]
          exact decide_eq_true hlen
        refine pxs_cg (pxs_mutN h2 ies.ln ?_) hev
        cases op with
        | app => exact ps_expr (pe_bm PySem.F.plainAttrs_list PySem.F.slot_list_append PySem.F.type_list_append mt_append ipl ies.pa (by rfl) hfew h3 (star_no hs0) (any_no hs1)) (by rfl)
        | clr => exact ps_expr (pe_bm PySem.F.plainAttrs_list PySem.F.slot_list_clear PySem.F.type_list_clear mt_clear ipl ies.pa (by rfl) hfew h3 (star_no hs0) (any_no hs1)) (by rfl)
        | rev => exact ps_expr (pe_bm PySem.F.plainAttrs_list PySem.F.slot_list_reverse PySem.F.type_list_reverse mt_reverse ipl ies.pa (by rfl) hfew h3 (star_no hs0) (any_no hs1)) (by rfl)
        | pop => exact ps_expr (pe_bm PySem.F.plainAttrs_list PySem.F.slot_list_pop PySem.F.type_list_pop mt_pop ipl ies.pa (by rfl) hfew h3 (star_no hs0) (any_no hs1)) (by rfl)
        | popI => exact ps_expr (pe_bm PySem.F.plainAttrs_list PySem.F.slot_list_pop PySem.F.type_list_pop mt_popAt ipl ies.pa (by rfl) hfew h3 (star_no hs0) (any_no hs1)) (by rfl)
        | ext => exact ps_expr (pe_bm PySem.F.plainAttrs_list PySem.F.slot_list_extend PySem.F.type_list_extend mt_extend ipl ies.pa (by rfl) hfew h3 (star_no hs0) (any_no hs1)) (by rfl)
        | ins => exact ps_expr (pe_bm PySem.F.plainAttrs_list PySem.F.slot_list_insert PySem.F.type_list_insert mt_insert ipl ies.pa (by rfl) hfew h3 (star_no hs0) (any_no hs1)) (by rfl)
    · cases h
  | .loopO t b body, io, C, X, W, p, x, w, st, h => by
    simp only [ckS] at h
    split at h
    · obtain ⟨h1, h⟩ := ba2 h
      obtain ⟨h2, h⟩ := ba2 h
      obtain ⟨h3, h⟩ := ba2 h
      obtain ⟨h4, h5⟩ := ba2 h
      have ib := sSs body p x w h5
      exact pxs_cg (pxs_loopO (of_decide_eq_true h4) (by simpa using h3) ib (ps_for w.hp x.calm (pi_list (x.var h2)) (x.store h1) ib (by intro _; rfl))) fun ρ => by simp only [exS]
    · cases h
  | .setS i a b e, io, C, X, W, p, x, w, st, h => by
    simp only [ckS] at h
    split at h
    · obtain ⟨h1, h2⟩ := ba2 h
      obtain ⟨h2, h3⟩ := ba2 h2
      obtain ⟨h3, h4⟩ := ba2 h3
      have ia := sE a p x h2
      have ib := sE b p x h3
      have ie := sE e p x h4
      exact pxs_cg (pxs_setS ie.px.ln ia.px.ln ib.px.ln (ps_asg ie.px.pe (pg_slc (x.var h1) ia.px.pe ib.px.pe) (sole_sub) (swapped_no (by rfl) (fun ts q z => by cases z)) (by rfl))) fun ρ => by simp only [exS]
    · cases h
  | .swp i j a b e, io, C, X, W, p, x, w, st, h => by
    simp only [ckS] at h
    split at h
    · obtain ⟨h1, h2⟩ := ba2 h
      obtain ⟨h2, h3⟩ := ba2 h2
      obtain ⟨h3, h4⟩ := ba2 h3
      obtain ⟨h4, h5⟩ := ba2 h4
      obtain ⟨h5, h6⟩ := ba2 h5
      obtain ⟨h6, h7⟩ := ba2 h6
      obtain ⟨h7, h8⟩ := ba2 h7
      have ia := sE a p x h5
      have ib := sE b p x h6
      have ie := sE e p x h7
      exact pxs_cg (pxs_swp ie.px.ln ia.px.ln ib.px.ln (ps_asg ie.px.pe (pg_tup x.calm (pgs_cons (pg_sub (x.var h1) ia.px.pe set_list fun v => assign_sub h3) (pgs_cons (pg_sub (x.var h2) ib.px.pe set_list fun v => assign_sub h4) pgs_nil))) (sole_of h8) swapped_subs (by rfl))) fun ρ => by simp only [exS]
    · cases h
  | .bor is a, io, C, X, W, p, x, w, st, h => by
    simp only [ckS] at h
    obtain ⟨h1, h2⟩ := ba2 h
    rw [← x.hN] at h2
    refine pxs_cg (pxs_bor (fun i hi z => ?_) (sS a p x w h2)) fun ρ => by simp only [exS]; rfl
    have := List.all_eq_true.mp h1 i hi
    simp at this
    exact this z
  | .mutP pl op es, io, C, X, W, p, x, w, st, h => by
    simp only [ckS] at h
    split at h
    · rename_i o m ap xs cp sp
      obtain ⟨h1, r1⟩ := ba2 h
      obtain ⟨h2, r2⟩ := ba2 r1
      obtain ⟨h3, r3⟩ := ba2 r2
      obtain ⟨h4, r4⟩ := ba2 r3
      obtain ⟨h5, r5⟩ := ba2 r4
      obtain ⟨h6, h7⟩ := ba2 r5
      clear h r1 r2 r3 r4 r5
      have e1 := of_decide_eq_true h1
      subst e1
      have ipl := x.pl h6
      obtain ⟨ies, _⟩ := sPs es p x h7
      have hall := ckPs_all h7
      have hlen : xs.length < 30 := of_decide_eq_true h4
      have hev : ∀ ρ, exS (Gam T Φ) (.mutP pl op es) ρ = mutE pl op (evEs (Gam T Φ) es) ρ := fun ρ => by simp only [exS]; rfl
      cases xs with
      | nil =>
        have hes : ∀ ρ, evEs (Gam T Φ) es ρ = some ([], ρ) := by
          cases es with
          | nil => intro ρ; simp only [evEs]
          | cons a b => simp [ckPs] at h7
          | star a b => simp [ckPs] at h7
        have hev' : ∀ ρ, exS (Gam T Φ) (.mutP pl op es) ρ = mutE pl op (fun ρ => some ([], ρ)) ρ := fun ρ => by
          rw [hev ρ]
          have : evEs (Gam T Φ) es = fun ρ => some ([], ρ) := funext hes
          rw [this]
        refine pxs_cg (pxs_mutP0 h2 ?_) hev'
        cases op with
        | clr => exact ps_expr (pe_bm0 PySem.F.plainAttrs_list PySem.F.slot_list_clear PySem.F.type_list_clear mt_clear ipl (base_of h5) h3) (by rfl)
        | rev => exact ps_expr (pe_bm0 PySem.F.plainAttrs_list PySem.F.slot_list_reverse PySem.F.type_list_reverse mt_reverse ipl (base_of h5) h3) (by rfl)
        | pop => exact ps_expr (pe_bm0 PySem.F.plainAttrs_list PySem.F.slot_list_pop PySem.F.type_list_pop mt_pop ipl (base_of h5) h3) (by rfl)
        | app => exact ps_expr (pe_bm0 PySem.F.plainAttrs_list PySem.F.slot_list_append PySem.F.type_list_append mt_append ipl (base_of h5) h3) (by rfl)
        | popI => exact ps_expr (pe_bm0 PySem.F.plainAttrs_list PySem.F.slot_list_pop PySem.F.type_list_pop mt_popAt ipl (base_of h5) h3) (by rfl)
        | ext => exact ps_expr (pe_bm0 PySem.F.plainAttrs_list PySem.F.slot_list_extend PySem.F.type_list_extend mt_extend ipl (base_of h5) h3) (by rfl)
        | ins => exact ps_expr (pe_bm0 PySem.F.plainAttrs_list PySem.F.slot_list_insert PySem.F.type_list_insert mt_insert ipl (base_of h5) h3) (by rfl)
      | cons e0 xs =>
        have hs0 : noStar e0 = true := by rw [List.all_cons, Bool.and_eq_true] at hall; exact hall.1
        have hs1 : xs.all noStar = true := by rw [List.all_cons, Bool.and_eq_true] at hall; exact hall.2
        have hfew : ((backTo cp (starEach (e0 :: xs) X.env)).all (fun x => !x.1) && (backToKw cp (keywordEach [] X.env)).all (fun x => x.1.isSome) && decide ((e0 :: xs).length + ([] : List Keyword).length + (if ([] : List Keyword).isEmpty then 0 else 1) < 30)) = true := by
          rw [all_no (by rw [List.all_cons, hs0, hs1]; rfl)]
          show (true && (true && decide ((e0 :: xs).length + 0 + 0 < 30))) = true
          rw [Bool.true_and, Bool.true_and]
          exact decide_eq_true hlen
        refine pxs_cg (pxs_mutP h2 ies.ln ?_) hev
        cases op with
        | app => exact ps_expr (pe_bm PySem.F.plainAttrs_list PySem.F.slot_list_append PySem.F.type_list_append mt_append ipl ies.pa (base_of h5) hfew h3 (star_no hs0) (any_no hs1)) (by rfl)
        | clr => exact ps_expr (pe_bm PySem.F.plainAttrs_list PySem.F.slot_list_clear PySem.F.type_list_clear mt_clear ipl ies.pa (base_of h5) hfew h3 (star_no hs0) (any_no hs1)) (by rfl)
        | rev => exact ps_expr (pe_bm PySem.F.plainAttrs_list PySem.F.slot_list_reverse PySem.F.type_list_reverse mt_reverse ipl ies.pa (base_of h5) hfew h3 (star_no hs0) (any_no hs1)) (by rfl)
        | pop => exact ps_expr (pe_bm PySem.F.plainAttrs_list PySem.F.slot_list_pop PySem.F.type_list_pop mt_pop ipl ies.pa (base_of h5) hfew h3 (star_no hs0) (any_no hs1)) (by rfl)
        | popI => exact ps_expr (pe_bm PySem.F.plainAttrs_list PySem.F.slot_list_pop PySem.F.type_list_pop mt_popAt ipl ies.pa (base_of h5) hfew h3 (star_no hs0) (any_no hs1)) (by rfl)
        | ext => exact ps_expr (pe_bm PySem.F.plainAttrs_list PySem.F.slot_list_extend PySem.F.type_list_extend mt_extend ipl ies.pa (base_of h5) hfew h3 (star_no hs0) (any_no hs1)) (by rfl)
        | ins => exact ps_expr (pe_bm PySem.F.plainAttrs_list PySem.F.slot_list_insert PySem.F.type_list_insert mt_insert ipl ies.pa (base_of h5) hfew h3 (star_no hs0) (any_no hs1)) (by rfl)
    · cases h
  | .app i e, io, C, X, W, p, x, w, st, h => by
    simp only [ckS] at h
    split at h
    · obtain ⟨h1, h2⟩ := ba2 h
      obtain ⟨h2, h3⟩ := ba2 h2
      obtain ⟨h3, h4⟩ := ba2 h3
      obtain ⟨h4, h5⟩ := ba2 h4
      have e1 := of_decide_eq_true h2
      subst e1
      have ie := sE e p x h5
      refine pxs_cg (pxs_app ie.px.ln (ps_expr (pe_bm PySem.F.plainAttrs_list PySem.F.slot_list_append PySem.F.type_list_append mt_append (x.var h1) (pa_cons ie.px.pe pa_nil (star_no h4)) (by rfl) ?_ h3 (star_no h4) (by rfl)) (by rfl))) fun ρ => by simp only [exS]
      rw [all_no (by simp [h4])]
      rfl
    · cases h
  | .ex e, io, C, X, W, p, x, w, st, h => by
    simp only [ckS] at h
    split at h
    · obtain ⟨h1, h2⟩ := ba2 h
      have ie := sE e p x h2
      exact pxs_cg (pxs_ex ie.px.ln (ps_expr ie.px.pe (swaps_of h1))) fun ρ => by simp only [exS]
    · cases h
  | .ite c a b, io, C, X, W, p, x, w, st, h => by
    simp only [ckS] at h
    split at h
    · obtain ⟨h1, h2⟩ := ba2 h
      obtain ⟨h2, h3⟩ := ba2 h2
      have ic := sE c p x h1
      exact pxs_cg (pxs_ite ic.pxt ic.px.ln (sSs a p x w h2) (sSs b p x w h3)) fun ρ => by simp only [exS]; rfl
    · cases h
  | .loop t it b, io, C, X, W, p, x, w, st, h => by
    simp only [ckS] at h
    split at h
    · obtain ⟨h1, h2⟩ := ba2 h
      obtain ⟨h2, h3⟩ := ba2 h2
      obtain ⟨h3, h4⟩ := ba2 h3
      obtain ⟨h4, h5⟩ := ba2 h4
      have ii := sI it p x h3
      have ib := sSs b p x w h5
      exact pxs_cg (pxs_loop (slots_no h1) ii ib (ps_for w.hp x.calm ii.pi (pg_of x h4) ib (folded_of h2 X.env))) fun ρ => by simp only [exS]
    · cases h
  | .whl c b, io, C, X, W, p, x, w, st, h => by
    simp only [ckS] at h
    split at h
    · obtain ⟨h1, h2⟩ := ba2 h
      have ic := sE c p x h1
      have ib := sSs b p x w h2
      refine pxs_cg (pxs_whl ic.pxt ib (ps_while w.hp ic.pxt.pt ib)) fun ρ => ?_
      have : evC (Gam T Φ) (.yes c) = asT (evE (Gam T Φ) c) := by funext ρ; simp only [evC]; rfl
      simp only [exS]
      rw [this]
    · cases h
  | .ret e, io, C, X, W, p, x, w, st, h => by
    simp only [ckS] at h
    split at h
    · have ie := sE e p x h
      exact pxs_cg (pxs_ret ie.px.ln (ps_ret ie.px.pe)) fun ρ => by simp only [exS]
    · cases h
  | .retN, io, C, X, W, p, x, w, st, h => by
    simp only [ckS] at h
    split at h
    · exact pxs_cg (pxs_retN ps_retN) fun ρ => by simp only [exS]
    · cases h
  | .brk, io, C, X, W, p, x, w, st, h => by
    simp only [ckS] at h
    split at h
    · exact pxs_cg (pxs_brk ps_break) fun ρ => by simp only [exS]
    · cases h
  | .cnt, io, C, X, W, p, x, w, st, h => by
    simp only [ckS] at h
    split at h
    · exact pxs_cg (pxs_cnt ps_continue) fun ρ => by simp only [exS]
    · cases h
  | .pass, io, C, X, W, p, x, w, st, h => by
    simp only [ckS] at h
    split at h
    · exact pxs_cg (pxs_pass ps_pass) fun ρ => by simp only [exS]
    · cases h
  | .nev, io, C, X, W, p, x, w, st, h => pxs_cg pxs_nev fun ρ => by simp only [exS]
  | .may m e, io, C, X, W, p, x, w, st, h => by
    simp only [ckS] at h
    cases m with
    | set t =>
      simp only [ckMay] at h
      split at h
      · rename_i tg v pos
        obtain ⟨h1, h2⟩ := ba2 h
        obtain ⟨h2, h3⟩ := ba2 h2
        obtain ⟨h3, h4⟩ := ba2 h3
        obtain ⟨h5, h6⟩ := ba2 h4
        have ix := sX e p x w.tk h3
        refine pxs_cg (pxs_may ix.ln (set_ok p x w.hk (slots_no h1) h2 h3 (by rw [h4]; rfl)) (ps_imp (ps_asg ix.pe (pg_of x h2) (swaps_of h5 : swapsWith v (some tg) pos.line X.env = pure false) (swapped_no h6 ?_) (asg_one (ckTg_star h2))) fun D σ H q => q)) fun ρ => by simp only [exS, mayN]
        intro ts q z
        subst z
        cases t <;> simp [ckTg] at h2
      · cases h
    | ex =>
      simp only [ckMay] at h
      split at h
      · obtain ⟨h1, h2⟩ := ba2 h
        have ix := sX e p x w.tk h2
        have ie := sE e p x h2
        exact pxs_cg (pxs_may ix.ln (pxs_ex ie.px.ln (ps_expr ie.px.pe (swaps_of h1))) (ps_imp (ps_expr ix.pe (swaps_of h1)) fun D σ H q => q)) fun ρ => by simp only [exS, mayN]
      · cases h
    | ret =>
      simp only [ckMay] at h
      split at h
      · have ix := sX e p x w.tk h
        have ie := sE e p x h
        exact pxs_cg (pxs_may ix.ln (pxs_ret ie.px.ln (ps_ret ie.px.pe)) (ps_imp (ps_ret ix.pe) fun D σ H q => q)) fun ρ => by simp only [exS, mayN]
      · cases h
  | .rse0 c, io, C, X, W, p, x, w, st, h => by
    simp only [ckS] at h
    split at h
    · obtain ⟨h1, h2⟩ := ba2 h
      obtain ⟨h2, h3⟩ := ba2 h2
      obtain ⟨h3, h4⟩ := ba2 h3
      have e1 := of_decide_eq_true h1
      subst e1
      obtain ⟨g1, g2⟩ := x.gl h2
      obtain ⟨q0, hq0, eq0⟩ := any_mem h3
      have eq0 := of_decide_eq_true eq0
      have hm := (p.xg q0 hq0).1
      obtain ⟨z1, z2, z3⟩ := p.x0 q0 hq0 fun r hr er => by
        have : (T.xi.any fun q => decide (q.1 = _)) = true := List.any_eq_true.mpr ⟨r, hr, decide_eq_true (er.trans eq0)⟩
        rw [this] at h4
        cases h4
      rw [eq0] at hm z1 z2 z3
      exact pxs_cg (pxs_rse0 (L2N.ps_raise x.calm w.tk (FX.pmk0 z1 hm z2 z3 g1 g2))) fun ρ => by simp only [exS]
    · cases h
  | .rse1 c f e, io, C, X, W, p, x, w, st, h => by
    simp only [ckS] at h
    split at h
    · obtain ⟨h1, h2⟩ := ba2 h
      obtain ⟨h2, h3⟩ := ba2 h2
      obtain ⟨h3, h4⟩ := ba2 h3
      obtain ⟨h4, h5⟩ := ba2 h4
      have e1 := of_decide_eq_true h1
      subst e1
      obtain ⟨g1, g2⟩ := x.gl h2
      obtain ⟨q0, hq0, eq0⟩ := any_mem h3
      have eq0 := of_decide_eq_true eq0
      subst eq0
      obtain ⟨z1, z2, fI, fd, ps, z3, z4, z5, z6⟩ := p.x1 _ hq0
      have ie := sE e p x h5
      exact pxs_cg (pxs_rse1 ie.px.ln (L2N.ps_raise x.calm w.tk (FX.pmk1 z2 z3 z4 z6 p.room z5 passN g1 z1 ie.px.pe g2 (star_no h4)))) fun ρ => by simp only [exS]
    · cases h
  | .try_ b hs, io, C, X, W, p, x, w, st, h => by
    simp only [ckS] at h
    split at h
    · obtain ⟨h1, h2⟩ := ba2 h
      obtain ⟨r1, r2⟩ := hds_ok p x w h2
      exact pxs_cg (pxs_try (T := T) (Φ := Φ) w.st w.fr x.nd w.tk p.xe (fun W' pn xe tk' po => sSs b (p.tr pn xe) (x.tr pn xe) ⟨w.hk, po, w.st, w.fr, tk', w.isn⟩ h1) r1 r2) fun ρ => by
        simp only [exS] <;> (rcases exSs (Gam T Φ) b ρ with _ | fl; rfl; cases fl <;> rfl)
    · cases h
theorem sSs : ∀ (s : Ss) {io : List Nat} {C : SC} {X : Cx} {W : WX}, XP T Φ k X → XC C X → XS T X W → ∀ {st : List Stmt}, ckSs T io C s st = true → PXSs X io W st (exSs (Gam T Φ) s)
  | .nil, io, C, X, W, p, x, w, st, h => by
    simp only [ckSs] at h
    split at h
    · exact pxss_cg pxss_nil fun ρ => by simp only [exSs]
    · cases h
  | .cons a as, io, C, X, W, p, x, w, st, h => by
    simp only [ckSs] at h
    split at h
    · obtain ⟨h1, h2⟩ := ba2 h
      exact pxss_cg (pxss_cons (sS a p x w h1) (sSs as p x w h2)) fun ρ => by
        simp only [exSs]
        unfold seqS
        cases exS (Gam T Φ) a ρ with
        | none => rfl
        | some fl => cases fl <;> rfl
    · cases h
  | .alt a b, io, C, X, W, p, x, w, st, h => by
    simp only [ckSs] at h
    obtain ⟨h1, h2⟩ := ba2 h
    exact pxss_cg (pxss_alt (sSs a p x w h1) (sSs b p x w h2)) fun ρ => by simp only [exSs]
  | .ali i pl body rest, io, C, X, W, p, x, w, st, h => by
    simp only [ckSs] at h
    split at h
    · rename_i zx zp zv zq zr
      obtain ⟨h1, h⟩ := ba2 h
      obtain ⟨h2, h⟩ := ba2 h
      obtain ⟨h3, h⟩ := ba2 h
      obtain ⟨h0, h⟩ := ba2 h
      obtain ⟨h4, h⟩ := ba2 h
      obtain ⟨h5, h6⟩ := ba2 h
      have ib := sSs body p x w h5
      have ir := sSs rest p x w h6
      have key := pxss_ali (X := X) (st := .Assign [.Name zx zp] zv zq) (of_decide_eq_true h3) (by simpa using h2) (ps_asg (x.pl h4) (x.store (p := zp) h1) (swaps_of h0 : swapsWith zv (some (.Name zx zp)) zq.line X.env = pure false) (swapped_no (by rfl) (fun ts q z => by cases z)) (by rfl)) ib ir
      rw [List.take_append_drop] at key
      exact pxss_cg key fun ρ => by
        simp only [exSs]
        rfl
    · cases h
  | .ali2 t i pl body rest, io, C, X, W, p, x, w, st, h => by
    simp only [ckSs] at h
    split at h
    · rename_i tg zv zq zr
      obtain ⟨h1, h⟩ := ba2 h
      obtain ⟨k1, h⟩ := ba2 h
      obtain ⟨k2, h⟩ := ba2 h
      obtain ⟨k3, h⟩ := ba2 h
      obtain ⟨k4, h⟩ := ba2 h
      obtain ⟨k5, h⟩ := ba2 h
      obtain ⟨h0, h⟩ := ba2 h
      obtain ⟨h0', h⟩ := ba2 h
      obtain ⟨h4, h⟩ := ba2 h
      obtain ⟨h5, h6⟩ := ba2 h
      have ib := sSs body p x w h5
      have ir := sSs rest p x w h6
      have key := pxss_ali2 (X := X) (st := .Assign [tg] zv zq) (of_decide_eq_true k3) (of_decide_eq_true k4) (of_decide_eq_true k5) (by simpa using k1) (by simpa using k2) (ps_asg (x.pl h4) (pg_of x h1) (swaps_of h0 : swapsWith zv (some tg) zq.line X.env = pure false) (swapped_no (by rw [h0', Bool.or_true]) (fun ts q z => by subst z; simp [ckTg] at h1)) (asg_one (ckTg_star h1))) ib ir
      rw [List.take_append_drop] at key
      exact pxss_cg key fun ρ => by
        simp only [exSs]
        rfl
    · cases h
end
end FL

/-! F18: the whole table: every def keeps what its evaluator says, at every depth. -/
namespace FL
open PySem PySem.Spec PyProof.Rows L2 StX
def fnScopeB (N P : List Str) (sc : Scope) : Bool := decide (sc.kind = .function) && (decide (sc.isCoroutine = false) && (decide (sc.isGenerator = false) && (decide N.Nodup && (decide (N.take P.length = P) && (P.all (fun x => locB sc x) && sc.names.all fun y => decide (y.2 ≠ .free))))))
theorem fnScopeB_ok {N P : List Str} {sc : Scope} (h : fnScopeB N P sc = true) : FnScope N P sc := by
  obtain ⟨h1, h⟩ := ba2 h
  obtain ⟨h2, h⟩ := ba2 h
  obtain ⟨h3, h⟩ := ba2 h
  obtain ⟨h4, h⟩ := ba2 h
  obtain ⟨h5, h⟩ := ba2 h
  obtain ⟨h6, h7⟩ := ba2 h
  exact ⟨of_decide_eq_true h1, of_decide_eq_true h2, of_decide_eq_true h3, of_decide_eq_true h4, of_decide_eq_true h5, fun x hx => locB_ok (List.all_eq_true.mp h6 x hx), fun y hy => of_decide_eq_true (List.all_eq_true.mp h7 y hy)⟩
def defChk (T : Tab) (fn : Fn) (body : List Stmt) (scope : Scope) : Bool := fnScopeB fn.N fn.ps scope && ckSs T fn.io ⟨fn.N, scope, fun _ => true⟩ fn.body body
section
variable {K : PySem.W.Frag} {Gf H : Hp} {N : List Addr}
theorem start_SR {vs : List V} {ds : List D} (h : SR K Gf N H (tmps vs ds)) (hl : vs.length = ds.length) : ∀ n : Nat, SR K Gf N H ((vs.map some ++ List.replicate n none).zip (ds.map some ++ List.replicate n none)) := fun n => by
  have e : ∀ (vs : List V) (ds : List D), vs.length = ds.length → (vs.map some ++ List.replicate n none).zip (ds.map some ++ List.replicate n none) = tmps vs ds ++ (List.replicate n (none : Option V)).zip (List.replicate n (none : Option D)) := by
    intro vs
    induction vs with
    | nil => intro ds h; cases ds <;> simp [tmps] at h ⊢
    | cons v vs ih =>
      intro ds h
      cases ds with
      | nil => simp at h
      | cons d ds => simp [tmps, ih ds (by simpa using h)]
  rw [e vs ds hl]
  have tail : ∀ n : Nat, SR K Gf N H ((List.replicate n (none : Option V)).zip (List.replicate n (none : Option D)) ++ tmps vs ds) := by
    intro n
    induction n with
    | zero => simpa using h
    | succ n ih => simp only [List.replicate_succ, List.zip_cons_cons, List.cons_append]; exact ih.skip
  exact (tail n).perm List.perm_append_comm
theorem outs_ok {io : List Nat} {ρ : Env} : ∀ (n i : Nat) {vs : List V} {σs : L2.St} {ρs : Env} {rs : List Root}, vs.length = n → (∀ (j : Nat) (v : V), vs[j]? = some v → (i + j) ∈ io → σs[j]? = some (some v)) → (∀ j : Nat, ρs[j]? = ρ[i + j]?) → σs.length = ρs.length → n ≤ σs.length →
    SR K Gf N H (rs ++ σs.zip ρs) → SR K Gf N H (rs ++ rootsA vs (outsFrom io ρ i n))
  | 0, i, [], σs, ρs, rs, _, _, _, _, _, h => by
    simp only [rootsA, List.append_nil]
    have h2 : SR K Gf N H (σs.zip ρs ++ rs) := h.perm List.perm_append_comm
    exact h2.dropL
  | 0, i, _ :: _, _, _, _, hl, _, _, _, _, _ => by simp at hl
  | n + 1, i, [], _, _, _, hl, _, _, _, _, _ => by simp at hl
  | n + 1, i, v :: vs, [], _, _, _, _, _, _, hn, _ => by simp at hn
  | n + 1, i, v :: vs, s :: σs, [], _, _, _, _, hz, _, _ => by simp at hz
  | n + 1, i, v :: vs, s :: σs, r :: ρs, rs, hl, ha, hr, hz, hn, h => by
    simp only [outsFrom, rootsA]
    have h0 : SR K Gf N H (rs ++ (s, r) :: σs.zip ρs) := by simpa using h
    have hr0 : ρ[i]? = some r := by have := hr 0; simpa using this.symm
    have key : SR K Gf N H ((rs ++ [(some v, if i ∈ io then getS ρ i else none)]) ++ σs.zip ρs) := by
      rw [List.append_assoc]
      by_cases hi : i ∈ io
      · rw [if_pos hi]
        have hs : s = some v := by have := ha 0 v rfl (by simpa using hi); simpa using this
        subst hs
        have hg : getS ρ i = r := by
          unfold getS
          rw [hr0]
          cases r <;> rfl
        rw [hg]
        exact h0
      · rw [if_neg hi]
        exact SR.fromFront (SR.skip (SR.drop (SR.toFront h0)))
    have := outs_ok (ρ := ρ) (io := io) n (i + 1) (vs := vs) (σs := σs) (ρs := ρs) (by simpa using hl) (fun j w hw hio => by have := ha (j + 1) w (by simpa using hw) (by rw [show i + (j + 1) = i + 1 + j by omega]; exact hio); simpa using this) (fun j => by have := hr (j + 1); rw [show i + 1 + j = i + (j + 1) by omega]; simpa using this) (by simpa using hz) (by simpa using hn) key
    rw [List.append_assoc] at this
    exact this
end
/-! ### the __init__ of an exception class; a def that asks for an integer, called in a suite -/
def xinitB (f : Str) : List Str → List Stmt → Scope → Bool
  | [s, v], [.Assign [.Attribute (.Name s' _) g _] (.Name v' _) _], sc => decide (s' = s) && (decide (v' = v) && (decide (g = f) && (fnScopeB [s, v] [s, v] sc && (nameOk ⟨[s, v], sc, fun _ => true⟩ 0 s && nameOk ⟨[s, v], sc, fun _ => true⟩ 1 v))))
  | _, _, _ => false
theorem xinit_ok {P : Program} {w : World} {K : PySem.W.Frag} {mg : Str → Option Value} {base : Heap} {CX : CXT} {k : Nat} {f x qual : Str} {params : Arguments} {body : List Stmt} {scope : Scope} {fI C : Addr} {fd : FuncData} {ps : List Str} (F : FunD K x qual params body scope [] [] fI fd) (h : xinitB f ps body scope = true)
    (T : OexC K C) (hno : PySem.W.findIn K (.ref C) f = some none) : FnOk P w K mg base CX (k + 1) fI fd ps (FX.spXI C f) := by
  unfold xinitB at h
  split at h
  · rename_i s v s' p1 g p2 v' p3 p4
    obtain ⟨h1, h⟩ := ba2 h
    obtain ⟨h2, h⟩ := ba2 h
    obtain ⟨h3, h⟩ := ba2 h
    obtain ⟨h4, h⟩ := ba2 h
    obtain ⟨h5, h6⟩ := ba2 h
    have e1 := of_decide_eq_true h1
    have e2 := of_decide_eq_true h2
    have e3 := of_decide_eq_true h3
    subst e1 e2 e3
    have S := fnScopeB_ok h4
    refine F.ok S (fun vs H Q E z => ?_) (fun cdv A outer st H vs Q E hr z => ?_)
    · obtain ⟨a, y, rfl, _⟩ := z; rfl
    · have hx : XC0 ⟨[s', v'], scope, fun _ => true⟩ (cxOf CX P w K mg base [s', v'] qual scope fI cdv A outer st H E) := ⟨rfl, rfl, rfl, S.nd⟩
      refine ⟨_, pss_cons (ps_ost (hx.var h5) (hx.var h6) swaps_attr) pss_nil, ?_⟩
      obtain ⟨a, y, rfl, ea, q⟩ := z
      exact ⟨y, rfl, .ref a, rfl, a, C, rfl, T, hno, .inl ⟨ea, fun dx hd hne => q dx hd hne⟩⟩
  · cases h
def isintB : List Str → List Stmt → Scope → Bool
  | [v], [.Return (some (.BoolOp .And [.Call (.Name f1 _) [.Name a1 _, .Name t1 _] [] _, .UnaryOp .Not (.Call (.Name f2 _) [.Name a2 _, .Name t2 _] [] _) _] _)) _], sc =>
    decide (f1 = ("isinstance" : Str)) && (decide (f2 = ("isinstance" : Str)) && (decide (t1 = ("int" : Str)) && (decide (t2 = ("bool" : Str)) && (fnScopeB [v] [v] sc && (nameOk ⟨[v], sc, fun _ => true⟩ 0 a1 && (nameOk ⟨[v], sc, fun _ => true⟩ 0 a2 &&
      (glB ⟨[v], sc, fun _ => true⟩ f1 && (glB ⟨[v], sc, fun _ => true⟩ t1 && glB ⟨[v], sc, fun _ => true⟩ t2))))))))
  | _, _, _ => false
def spInt : Sp := fun vs H Q _ => ∃ v b, vs = [v] ∧ intV v = some b ∧ Q (.bl b) H
theorem intV_D {v : V} {b : Bool} (h : intV v = some b) : ∃ d b', Flat v d ∧ isiD d (.bi "int") = some (b || b') ∧ isiD d (.bi "bool") = some b' ∧ (b = true → b' = false) := by
  cases v <;> simp only [intV, reduceCtorEq] at h <;> cases h
  · exact ⟨_, false, .non, rfl, rfl, fun z => by cases z⟩
  · exact ⟨_, true, .bl _, rfl, rfl, fun z => by cases z⟩
  · exact ⟨_, false, .int _, rfl, rfl, fun _ => rfl⟩
  · exact ⟨_, false, .str _, rfl, rfl, fun z => by cases z⟩
theorem SR.none {K : PySem.W.Frag} {H : Hp} : SR K (fun _ => none) [] H [] := ⟨fun a ha => by simp at ha, [], List.nodup_nil, .nil, fun a o e => by cases e⟩
theorem int_hot {P : Program} {w : World} {K : PySem.W.Frag} {mg : Str → Option Value} {base : Heap} {CX : CXT} {k : Nat} {x qual : Str} {params : Arguments} {body : List Stmt} {scope : Scope} {fI : Addr} {fd : FuncData} {ps : List Str} (F : FunD K x qual params body scope [] [] fI fd) (h : isintB ps body scope = true)
    (m1 : mg "isinstance" = none) (m2 : mg "int" = none) (m3 : mg "bool" = none) : L2H.FnH P w K mg base CX (k + 1) fI fd ps spInt := by
  unfold isintB at h
  split at h
  · rename_i v f1 p1 a1 p2 t1 p3 p4 f2 p5 a2 p6 t2 p7 p8 p9 p10 p11
    obtain ⟨h1, h⟩ := ba2 h
    obtain ⟨h2, h⟩ := ba2 h
    obtain ⟨h3, h⟩ := ba2 h
    obtain ⟨h4, h⟩ := ba2 h
    obtain ⟨h5, h⟩ := ba2 h
    obtain ⟨h6, h⟩ := ba2 h
    obtain ⟨h7, h⟩ := ba2 h
    obtain ⟨h8, h⟩ := ba2 h
    obtain ⟨h9, h10⟩ := ba2 h
    have e1 := of_decide_eq_true h1
    have e2 := of_decide_eq_true h2
    have e3 := of_decide_eq_true h3
    have e4 := of_decide_eq_true h4
    subst e1 e2 e3 e4
    have S := fnScopeB_ok h5
    obtain ⟨oc, od, dV, kV, doc, pm, an, cdv, ct, osl, rfl, lk, hcd, _, _⟩ := F.ex
    refine L2H.fn_ofH lk hcd S (fun vs H Q E z => ?_) (fun A outer s H vs Q E p hot hr z => ?_)
    · obtain ⟨y, b, rfl, _⟩ := z; rfl
    · have hx : XC0 ⟨[v], scope, fun _ => true⟩ (L2H.cxH CX P w K mg base [v] qual scope fI cdv A outer s H E p) := ⟨rfl, rfl, rfl, S.nd⟩
      obtain ⟨g1, g2⟩ := hx.gl h8
      obtain ⟨g3, g4⟩ := hx.gl h9
      obtain ⟨g5, g6⟩ := hx.gl h10
      refine ⟨_, pss_cons (ps_ret (pe_and (pe_callB call_isi g1 m1 PyProof.Rows.Boot.«isinstance» (pa_cons (hx.var h6) (pa_cons (pe_bltn g3 m2 (u := .type "int") (v := .ty "int") (by decide +kernel) rfl (by decide) g4) pa_nil rfl) rfl) (by decide) g2 rfl rfl)
        (pe_one (pe_not (pe_callB call_isi g1 m1 PyProof.Rows.Boot.«isinstance» (pa_cons (hx.var h7) (pa_cons (pe_bltn g5 m3 (u := .type "bool") (v := .ty "bool") (by decide +kernel) rfl (by decide) g6) pa_nil rfl) rfl) (by decide) g2 rfl rfl))))) pss_nil, ?_⟩
      obtain ⟨y, b, rfl, ei, q⟩ := z
      obtain ⟨d, b', fl, i1, i2, i3⟩ := intV_D ei
      have sr : SR K (fun _ => none) [] H [tmp y d] := SR.none.flat fl
      refine ⟨y, rfl, ?_⟩
      unfold tCons tC tNil
      dsimp only
      refine snd_isi sr (by decide) i1 ⟨_, rfl, ?_⟩
      cases hb : (b || b') with
      | true =>
        refine iteT ⟨y, rfl, ?_⟩
        refine snd_isi sr (by decide) i2 ⟨_, rfl, ?_⟩
        have : (!b') = b := by
          cases b <;> cases b' <;> simp at hb i3 ⊢
        rw [this]; exact q
      | false =>
        refine iteF ?_
        have : b = false := by cases b <;> simp at hb ⊢
        rw [this] at q; exact q
  · cases h
/-- what the top has left, for the table -/
structure ProgOk (T : Tab) (K : PySem.W.Frag) (mg : Str → Option Value) : Prop where
  cls : ClsOk K T.cs
  fns : ∀ (f : Nat) (fn : Fn), T.fns[f]? = some fn → ∃ x qual params body scope fd, FunD K x qual params body scope [] [] (He.fAd K fn.at_) fd ∧ Binds K fd fn.ps [] ∧ defChk T fn body scope = true
  glo : ∀ (f : Nat) (fn : Fn), T.fns[f]? = some fn → fn.at_.2 = none → mg fn.at_.1 = some (.ref (He.ga K fn.at_.1))
  mth : ∀ (c m : Str) (f : Nat), ((c, m), f) ∈ T.ms → ∃ fn : Fn, T.fns[f]? = some fn ∧ fn.at_ = (c, some m) ∧ Meth K (He.ga K c) m (He.ma K (He.ga K c) m) ∧ Cls K (He.ga K c)
  mak : ∀ (f : Nat) (fn : Fn) (c : Str), T.fns[f]? = some fn → fn.at_ = (c, some ("__init__" : Str)) → Mk K (He.ga K c) (He.ma K (He.ga K c) "__init__") ∧ mg c = some (.ref (He.ga K c))
  xg : ∀ q ∈ T.xt, mg q.1 = some (.ref (He.ga K q.1)) ∧ FX.XFacts K (He.ga K q.1)
  x0 : ∀ q ∈ T.xt, (∀ r ∈ T.xi, r.1 ≠ q.1) → PySem.W.excIn K (He.ga K q.1) He.veBase "ValueError.__new__" = true ∧ PySem.W.keepIn K (.ref (He.ga K q.1)) = true ∧ PySem.W.subIn K (.ref (He.ga K q.1)) (.type "BaseException") = some true ∧ PySem.W.typeIn K (.ref (He.ga K q.1)) = some (.type "type")
  x1 : ∀ q ∈ T.xi, mg q.1 = some (.ref (He.ga K q.1)) ∧ OexC K (He.ga K q.1) ∧ PySem.W.findIn K (.ref (He.ga K q.1)) q.2 = some none ∧ ∃ fI x qual params body scope fd ps, FunD K x qual params body scope [] [] fI fd ∧ PySem.W.findIn K (.ref (He.ga K q.1)) "__init__" = some (some (.ref fI)) ∧ PySem.W.typeIn K (.ref fI) = some (.type "function") ∧ Binds K fd ps [] ∧ xinitB q.2 ps body scope = true
  xe : ∀ q ∈ T.xt, ∀ r ∈ T.xt, PySem.W.exmOne K (.ref (He.ga K q.1)) (.ref (He.ga K r.1)) = some (q.2.contains r.1)
  xk : ∀ q ∈ T.xt, (∀ r ∈ T.xt, PySem.W.kitOne K (.ref (He.ga K q.1)) (.ref (He.ga K r.1)) = some (q.2.contains r.1)) ∧ PySem.W.kitOne K (.ref (He.ga K q.1)) (.type "ValueError") = some (q.2.contains ("ValueError" : Str))
  xn : ∀ q ∈ T.xt, ∀ r ∈ T.xi, PySem.W.findIn K (.ref (He.ga K q.1)) r.2 = some none
  xv : mg "ValueError" = none
  oc : ∀ c ∈ T.oc, mg c = some (.ref (He.ga K c)) ∧ OcOk K (He.ga K c)
  eqc : ∀ c f, ((c, Str.ofString "__eq__"), f) ∈ T.ms → c ∈ T.oc
  isn : ∀ f ∈ T.isn, ∀ fn : Fn, T.fns[f]? = some fn → fn.at_.2 = none ∧ ∃ x qual params body scope fd, FunD K x qual params body scope [] [] (He.fAd K fn.at_) fd ∧ Binds K fd fn.ps [] ∧ isintB fn.ps body scope = true
  free : ∀ x ∈ (["len", "int", "list", "tuple", "sum", "abs", "min", "max", "all", "any", "range", "zip", "enumerate", "isinstance", "bool", "str", "dict"] : List Str), mg x = none
theorem run_s {T : Tab} {k f : Nat} {ds : List D} : run T (k + 1) f ds = (T.fns[f]?).bind fun fn => runFn ⟨run T k, runX T k, T.cs, T.ms, T.xt⟩ fn ds := rfl
theorem runX_s {T : Tab} {k f : Nat} {ds : List D} : runX T (k + 1) f ds = (T.fns[f]?).bind fun fn => runFnX ⟨run T k, runX T k, T.cs, T.ms, T.xt⟩ fn ds := rfl
theorem run_0 {T : Tab} {f : Nat} {ds : List D} : run T 0 f ds = none := rfl
theorem runX_0 {T : Tab} {f : Nat} {ds : List D} : runX T 0 f ds = none := rfl
theorem run_ar {T : Tab} {n f : Nat} {ds : List D} {r : D × List (Option D)} (h : run T n f ds = some r) : ∃ fn : Fn, T.fns[f]? = some fn ∧ ds.length = fn.ps.length := by
  cases n with
  | zero => rw [run_0] at h; cases h
  | succ n =>
    rw [run_s] at h
    obtain ⟨fn, e, h⟩ := bnd h
    unfold runFn at h
    split at h
    · exact ⟨fn, e, by assumption⟩
    · cases h
theorem runX_ar {T : Tab} {n f : Nat} {ds : List D} {r : Exn × List (Option D)} (h : runX T n f ds = some r) : ∃ fn : Fn, T.fns[f]? = some fn ∧ ds.length = fn.ps.length := by
  cases n with
  | zero => rw [runX_0] at h; cases h
  | succ n =>
    rw [runX_s] at h
    obtain ⟨fn, e, h⟩ := bnd h
    unfold runFnX at h
    split at h
    · exact ⟨fn, e, by assumption⟩
    · cases h
theorem te_one {te : TE} {σ : L2.St} {H : Hp} {Q : VK} (z : te σ H fun v H1 => ∃ b, intV v = some b ∧ Q (.bl b) H1) : te σ H fun v H1 => spInt [v] H1 Q fun _ _ _ => False := by
  have : (fun (v : V) (H1 : Hp) => ∃ b, intV v = some b ∧ Q (.bl b) H1) = fun v H1 => spInt [v] H1 Q fun _ _ _ => False := by
    funext v H1
    apply propext
    constructor
    · rintro ⟨b, h1, h2⟩; exact ⟨v, b, rfl, h1, h2⟩
    · rintro ⟨v', b, e, h1, h2⟩; cases e; exact ⟨b, h1, h2⟩
  rw [← this]; exact z
theorem fn_in {T : Tab} {K : PySem.W.Frag} {mg : Str → Option Value} (O : ProgOk T K mg) {f : Nat} {fn : Fn} (e : T.fns[f]? = some fn) : PySem.W.fnIn K (He.fAd K fn.at_) = true := by
  obtain ⟨x, qual, params, body, scope, fd, F1, _⟩ := O.fns f fn e
  obtain ⟨_, _, _, _, _, _, _, _, _, _, _, lk, _⟩ := F1.ex
  unfold PySem.W.fnIn
  simp only [lk]
theorem fn_step {T : Tab} {P : Program} {w : World} {K : PySem.W.Frag} {mg : Str → Option Value} {base : Heap} (O : ProgOk T K mg) {n : Nat}
    (ih : ∀ (f : Nat) (fn : Fn), T.fns[f]? = some fn → ∃ fd, FnOk P w K mg base (L2N.CX P w) (2 * n + 2) (He.fAd K fn.at_) fd fn.ps (spOf K fn.ps.length (run T n f) (runX T n f)) ∧ Binds K fd fn.ps [] ∧ PySem.W.keepIn K (.ref (He.fAd K fn.at_)) = true)
    {f : Nat} {fn : Fn} (e : T.fns[f]? = some fn) {x qual : Str} {params : Arguments} {body : List Stmt} {scope : Scope} {fd : FuncData} (F : FunD K x qual params body scope [] [] (He.fAd K fn.at_) fd) (hck : defChk T fn body scope = true) :
    FnOk P w K mg base (L2N.CX P w) (2 * (n + 1) + 2) (He.fAd K fn.at_) fd fn.ps (spOf K fn.ps.length (run T (n + 1) f) (runX T (n + 1) f)) := by
    obtain ⟨hS, hb⟩ := ba2 hck
    have S := fnScopeB_ok hS
    refine F.ok (k := 2 * n + 3) S (fun vs H Q E h => ?_) (fun cdv A outer s H vs Q E hr h => ?_)
    · obtain ⟨_, _, _, _, z, _⟩ := h; exact z
    · have hp : XP T (run T n, runX T n) (2 * n + 2) (cxOf (L2N.CX P w) P w K mg base fn.N qual scope (He.fAd K fn.at_) cdv A outer s H E) :=
        ⟨hr, O.cls, ih, fun f fn e => fn_in O e, fun f ds r h => run_ar h, fun f ds r h => runX_ar h, O.glo, O.mth, O.mak, O.xg, fun q hq hn => by
            obtain ⟨z1, z2, z3, z4⟩ := O.x0 q hq hn
            exact ⟨z1, z2, raises_own z3 z4⟩, fun q hq => by
            obtain ⟨z1, z2, z3, fI, x, qual, params, body, scope, fd, ps, F1, z4, z5, z6, z7⟩ := O.x1 q hq
            exact ⟨z1, z2, fI, fd, ps, z4, z5, z6, xinit_ok F1 z7 z2 z3⟩, O.xe, O.xk, O.xn, O.xv, O.oc, O.eqc, O.free⟩
      have hx : XC ⟨fn.N, scope, fun _ => true⟩ (cxOf (L2N.CX P w) P w K mg base fn.N qual scope (He.fAd K fn.at_) cdv A outer s H E) := ⟨⟨rfl, rfl, rfl, S.nd⟩, rfl⟩
      have hw : XS T (cxOf (L2N.CX P w) P w K mg base fn.N qual scope (He.fAd K fn.at_) cdv A outer s H E) (fun cls d _ H => E cls d H) :=
        ⟨S.kind, passes_of rfl, rfl, rfl, L2N.takes_of rfl rfl rfl rfl, fun f1 hf1 a oe pn cls d hz hf y e1 te q pos a1 a2 a3 a4 a5 => by
          obtain ⟨fn1, b1, b2⟩ := mpd a1
          obtain ⟨_, x1, qual1, params1, body1, scope1, fd1, F1, B1, c1⟩ := O.isn f1 hf1 fn1 b1
          have ea : He.fAd K fn1.at_ = He.ga K y := by rw [b2]; rfl
          have hm := O.glo f1 fn1 b1 (by rw [b2])
          rw [b2] at hm
          rw [ea] at F1
          have FH := int_hot (P := P) (w := w) (mg := mg) (base := base) (CX := L2N.CX P w) (k := 2 * n + 1) F1 c1 (O.free _ (by decide +kernel)) (O.free _ (by decide +kernel)) (O.free _ (by decide +kernel))
          have hot : L2H.HotC ((cxOf (L2N.CX P w) P w K mg base fn.N qual scope (He.fAd K fn.at_) cdv A outer s H E).suite a ((a, oe) :: pn)) := by
            obtain ⟨fv, hv⟩ := hf
            exact ⟨(a, oe), ⟨rfl, fv, hv, hz.2.2 fv hv⟩, List.mem_cons_self ..⟩
          refine pe_imp (L2H.pe_callH (E := fun _ _ _ _ => False) FH ⟨(hr.mono (j := 2 * n + 2) (by omega)).dp, (hr.mono (j := 2 * n + 2) (by omega)).un⟩ hot a2 hm F1.kp B1 (fun σ _ _ _ _ _ _ z => ?_) (pa_cons a5 pa_nil (star_no a4)) a3 (star_no a4) rfl) fun σ H Q z => ?_
          · obtain ⟨_, _, _, _, _, _, _, _, _, _, _, _, z⟩ := z
            exact z.elim
          · exact te_one z⟩
      have hs := sSs (T := T) (Φ := (run T n, runX T n)) fn.body hp hx hw hb
      refine ⟨_, hs, ?_⟩
      obtain ⟨Gf, N, ds, l1, l2, hSR, er⟩ := h
      have hpl : fn.ps.length ≤ fn.N.length := by have := congrArg List.length S.pre; rw [List.length_take] at this; omega
      have hlen : (L2.start fn.N vs).length = (ds.map some ++ List.replicate (fn.N.length - ds.length) (none : Option D)).length := by
        unfold L2.start; simp [l1]
      have h0 : SR K Gf N H ([] ++ (L2.start fn.N vs).zip (ds.map some ++ List.replicate (fn.N.length - ds.length) none)) := by
        unfold L2.start
        rw [l1]
        exact start_SR hSR l1 _
      have hsl : fn.ps.length ≤ (L2.start fn.N vs).length := by unfold L2.start; simp; omega
      have fin : ∀ (rs : List Root) (σ' : L2.St) (H' : Hp) (ρ' : Env), Agree fn.io (L2.start fn.N vs) σ' → σ'.length = ρ'.length → SR K Gf N H' (rs ++ σ'.zip ρ') → fn.ps.length ≤ σ'.length → SR K Gf N H' (rs ++ rootsA vs (outsFrom fn.io ρ' 0 fn.ps.length)) := by
        intro rs σ' H' ρ' ag hl' hs' hle
        refine outs_ok fn.ps.length 0 l2 (fun j v hv hio => ?_) (fun j => by rw [Nat.zero_add]) hl' hle hs'
        rw [Nat.zero_add] at hio
        rw [ag.2 j hio]
        unfold L2.start
        have hj : j < vs.length := (List.getElem?_eq_some_iff.mp hv).1
        rw [List.getElem?_append_left (by simpa using hj), List.getElem?_map, hv]
        rfl
      rcases er with ⟨r, er, q⟩ | ⟨r, er, q⟩
      · rw [run_s, e] at er
        simp only [Option.bind_some] at er
        unfold runFn at er
        split at er
        · obtain ⟨fl, ef, er⟩ := bnd er
          refine ⟨Gf, N, [], _, hlen, h0, fl, ef, ?_⟩
          cases fl with
          | nx ρ' =>
            cases er
            intro σ' H' ag hl' hs'
            refine q .non H' ?_
            exact fin [tmp .non .non] σ' H' ρ' ag hl' (SR.flat hs' .non) (by rw [ag.1]; exact hsl)
          | rt d ρ' =>
            cases er
            intro v σ' H' ag hl' hs'
            refine q v H' ?_
            exact fin [tmp v d] σ' H' ρ' ag hl' hs' (by rw [ag.1]; exact hsl)
          | bk ρ' => cases er
          | ct ρ' => cases er
          | ex x ρ' => cases er
        · cases er
      · rw [runX_s, e] at er
        simp only [Option.bind_some] at er
        unfold runFnX at er
        split at er
        · obtain ⟨fl, ef, er⟩ := bnd er
          refine ⟨Gf, N, [], _, hlen, h0, fl, ef, ?_⟩
          cases fl with
          | ex x ρ' =>
            cases er
            intro cls d σ' H' ag hl' hs'
            exact q cls d H' (hs'.imp fun ts h1 => fin ts σ' H' ρ' ag hl' (by rw [List.nil_append] at h1; exact h1) (by rw [ag.1]; exact hsl))
          | nx ρ' => cases er
          | rt d ρ' => cases er
          | bk ρ' => cases er
          | ct ρ' => cases er
        · cases er
theorem table_ok {T : Tab} {P : Program} {w : World} {K : PySem.W.Frag} {mg : Str → Option Value} {base : Heap} (O : ProgOk T K mg) : ∀ (n f : Nat) (fn : Fn), T.fns[f]? = some fn →
    ∃ fd, FnOk P w K mg base (L2N.CX P w) (2 * n + 2) (He.fAd K fn.at_) fd fn.ps (spOf K fn.ps.length (run T n f) (runX T n f)) ∧ Binds K fd fn.ps [] ∧ PySem.W.keepIn K (.ref (He.fAd K fn.at_)) = true
  | 0, f, fn, e => by
    obtain ⟨x, qual, params, body, scope, fd, F, B, _⟩ := O.fns f fn e
    have no : ∀ vs H Q E, ¬ spOf K fn.ps.length (run T 0 f) (runX T 0 f) vs H Q E := fun vs H Q E h => by
      obtain ⟨_, _, _, _, _, _, h⟩ := h
      rcases h with ⟨r, z, _⟩ | ⟨r, z, _⟩
      · rw [run_0] at z; cases z
      · rw [runX_0] at z; cases z
    exact ⟨fd, ⟨fun vs H Q E h => (no _ _ _ _ h).elim, fun A outer s H args us vs Q E _ _ _ _ h => (no _ _ _ _ h).elim⟩, B, F.kp⟩
  | n + 1, f, fn, e => by
    obtain ⟨x, qual, params, body, scope, fd, F, B, hck⟩ := O.fns f fn e
    exact ⟨fd, fn_step O (table_ok O n) e F hck, B, F.kp⟩
end FL

/-! F19: from the head's facts to the table; the law's end. -/
namespace FL
open PySem PySem.Spec PyProof.Rows L2 StX
def AllP {α : Type} (P : α → Prop) : List α → Prop
  | [] => True
  | x :: l => P x ∧ AllP P l
theorem AllP.get {α : Type} {P : α → Prop} : ∀ {l : List α} {i : Nat} {x : α}, AllP P l → l[i]? = some x → P x
  | [], _, _, _, h => by simp at h
  | y :: l, 0, x, a, h => by simp at h; subst h; exact a.1
  | y :: l, i + 1, x, a, h => AllP.get (l := l) (i := i) a.2 (by simpa using h)
def FnFact (T : Tab) (K : PySem.W.Frag) (fn : Fn) : Prop := ∃ x qual params body scope fd, FunD K x qual params body scope [] [] (He.fAd K fn.at_) fd ∧ Binds K fd fn.ps [] ∧ defChk T fn body scope = true
def XFact (K : PySem.W.Frag) (q : Str × Str) : Prop := ∃ x qual params body scope fd ps, FunD K x qual params body scope [] [] (He.fAd K (q.1, some ("__init__" : Str))) fd ∧ Binds K fd ps [] ∧ xinitB q.2 ps body scope = true
def IsnFact (T : Tab) (K : PySem.W.Frag) (f : Nat) : Prop := ∀ fn : Fn, T.fns[f]? = some fn → fn.at_.2 = none ∧ ∃ x qual params body scope fd, FunD K x qual params body scope [] [] (He.fAd K fn.at_) fd ∧ Binds K fd fn.ps [] ∧ isintB fn.ps body scope = true
def freeN : List Str := ["ValueError", "len", "int", "list", "tuple", "sum", "abs", "min", "max", "all", "any", "range", "zip", "enumerate", "isinstance", "bool", "str", "dict"]
def faCls (T : Tab) : List He.Fa := T.cs.flatMap fun c => He.Fa.cls c.1 :: c.2.map fun f => He.Fa.noat c.1 f
def faGlo (T : Tab) : List He.Fa := T.fns.filterMap fun fn => match fn.at_.2 with
  | none => some (He.Fa.glo fn.at_.1)
  | some _ => none
def faMth (T : Tab) : List He.Fa := T.ms.map fun q => He.Fa.meth q.1.1 q.1.2
def faMak (T : Tab) : List He.Fa := T.fns.flatMap fun fn => if fn.at_.2 = some ("__init__" : Str) then [He.Fa.mkr fn.at_.1, He.Fa.glo fn.at_.1] else []
def faXt (T : Tab) : List He.Fa := T.xt.map fun q => He.Fa.glo q.1
def faOf (T : Tab) : List He.Fa := faCls T ++ (faGlo T ++ (faMth T ++ (faMak T ++ (faXt T ++ (freeN.map He.Fa.free ++ T.oc.map He.Fa.glo)))))
/-! ### the exception classes, by the written part -/
def oexB (K : PySem.W.Frag) (C : Addr) : Bool := (match K.lookup C with
  | some ⟨.type "type", _, .cls cd, sl⟩ => (match cd.mro, sl.toList with
    | .ref C' :: bm, [_, _, _, _, some (.builtin n), _] => decide (C' = C) && (decide (n = "ValueError.__new__") && (!cd.hasDel && (cd.hasDict && PySem.HandSPX.refsVE bm)))
    | _, _ => false)
  | _ => false) && (He.eqO (PySem.W.findIn K (.ref C) "__setattr__") (some (some (.builtin "object.__setattr__"))) && (decide (PySem.W.subIn K (.ref C) (.type "BaseException") = some true) && (decide (PySem.W.typeIn K (.ref C) = some (.type "type")) && PySem.W.keepIn K (.ref C))))
theorem oexB_ok {K : PySem.W.Frag} {C : Addr} (h : oexB K C = true) : OexC K C := by
  obtain ⟨h1, h⟩ := ba2 h
  obtain ⟨h2, h⟩ := ba2 h
  obtain ⟨h3, h⟩ := ba2 h
  obtain ⟨h4, h5⟩ := ba2 h
  refine ⟨?_, He.eqO_ok h2, of_decide_eq_true h3, of_decide_eq_true h4, h5⟩
  split at h1
  · rename_i dd cd sl ho
    split at h1
    · rename_i C' bm k0 k1 k2 k3 n k5 hm hs
      obtain ⟨c1, h1⟩ := ba2 h1
      obtain ⟨c2, h1⟩ := ba2 h1
      obtain ⟨c3, h1⟩ := ba2 h1
      obtain ⟨c4, c5⟩ := ba2 h1
      have e1 := of_decide_eq_true c1
      have e2 := of_decide_eq_true c2
      subst e1 e2
      obtain ⟨nm, bs, mro, ns, qn, hd, sn, sub, ab, col, del⟩ := cd
      dsimp only at hm c3 c4
      have c3 : del = false := by simpa using c3
      subst hm c3 c4
      have hsl : sl = #[k0, k1, k2, k3, some (.builtin "ValueError.__new__"), k5] := by
        obtain ⟨l⟩ := sl
        simp only at hs
        rw [hs]
      subst hsl
      exact ⟨nm, qn, ns, bs, bm, sn, sub, ab, col, dd, k0, k1, k2, k3, k5, ho, c5⟩
    · cases h1
  · cases h1
def xfB (K : PySem.W.Frag) (C : Addr) : Bool := (PySem.W.clsIn K C).isSome && (He.eqO (PySem.W.findIn K (.ref C) "__getattribute__") (some (some (.builtin "BaseException.__getattribute__"))) && (He.eqO (PySem.W.findIn K (.ref C) "__getattr__") (some none) && (decide (PySem.W.subIn K (.ref C) (.type "BaseException") = some true) &&
  (PySem.W.hasDictIn K C && (He.eqO (PySem.W.findIn K (.ref C) "__class__") (some (some (.builtin "object.__class__"))) && (He.eqO (PySem.W.specialIn K (.builtin "object.__class__") "__get__") (some (some (.builtin "getset_descriptor.__get__"))) && (decide (PySem.W.takesIn K (.builtin "object.__class__") = some true) && decide (PySem.W.mroIn K C (.type "object") = some true))))))))
theorem xfB_ok' {K : PySem.W.Frag} {C : Addr} (h : xfB K C = true) : FX.XFacts K C := by
  obtain ⟨h1, h⟩ := ba2 h
  obtain ⟨h2, h⟩ := ba2 h
  obtain ⟨h3, h⟩ := ba2 h
  obtain ⟨h4, h⟩ := ba2 h
  obtain ⟨h5, h⟩ := ba2 h
  obtain ⟨h6, h⟩ := ba2 h
  obtain ⟨h7, h⟩ := ba2 h
  obtain ⟨h8, h9⟩ := ba2 h
  exact ⟨h1, He.eqO_ok h2, He.eqO_ok h3, of_decide_eq_true h4, h5, He.eqO_ok h6, He.eqO_ok h7, of_decide_eq_true h8, of_decide_eq_true h9⟩
def x0B (K : PySem.W.Frag) (C : Addr) : Bool := PySem.W.excIn K C He.veBase "ValueError.__new__" && (PySem.W.keepIn K (.ref C) && (decide (PySem.W.subIn K (.ref C) (.type "BaseException") = some true) && decide (PySem.W.typeIn K (.ref C) = some (.type "type"))))
def x1B (K : PySem.W.Frag) (q : Str × Str) : Bool := oexB K (He.ga K q.1) && (He.eqO (PySem.W.findIn K (.ref (He.ga K q.1)) q.2) (some none) && (He.eqO (PySem.W.findIn K (.ref (He.ga K q.1)) "__init__") (some (some (.ref (He.fAd K (q.1, some ("__init__" : Str)))))) && decide (PySem.W.typeIn K (.ref (He.fAd K (q.1, some ("__init__" : Str)))) = some (.type "function"))))
def xtB (T : Tab) (K : PySem.W.Frag) (q : Str × List Str) : Bool := xfB K (He.ga K q.1) && (((T.xi.any fun r => decide (r.1 = q.1)) || x0B K (He.ga K q.1)) && ((T.xt.all fun r => decide (PySem.W.exmOne K (.ref (He.ga K q.1)) (.ref (He.ga K r.1)) = some (q.2.contains r.1)) && decide (PySem.W.kitOne K (.ref (He.ga K q.1)) (.ref (He.ga K r.1)) = some (q.2.contains r.1))) &&
  (decide (PySem.W.kitOne K (.ref (He.ga K q.1)) (.type "ValueError") = some (q.2.contains ("ValueError" : Str))) && T.xi.all fun r => He.eqO (PySem.W.findIn K (.ref (He.ga K q.1)) r.2) (some none))))
/-- an own class that is asked for -/
def ocB (K : PySem.W.Frag) (C : Addr) : Bool := He.eqO (PySem.W.findIn K (.ref C) "__class__") (some (some (.builtin "object.__class__"))) && (He.eqO (PySem.W.specialIn K (.builtin "object.__class__") "__get__") (some (some (.builtin "getset_descriptor.__get__"))) && (decide (PySem.W.takesIn K (.builtin "object.__class__") = some true) && (decide (PySem.W.mroIn K C (.type "object") = some true) &&
  (FX.tyNames.all (fun n => decide (PySem.W.kitOne K (.type n) (.ref C) = some false)) && FX.tyNames.all fun n => decide (PySem.W.subIn K (.type n) (.ref C) = some false)))))
theorem ocB_ok {K : PySem.W.Frag} {C : Addr} (hc : Cls K C) (h : ocB K C = true) : OcOk K C := by
  obtain ⟨h1, h⟩ := ba2 h
  obtain ⟨h2, h⟩ := ba2 h
  obtain ⟨h3, h⟩ := ba2 h
  obtain ⟨h4, h⟩ := ba2 h
  obtain ⟨h5, h6⟩ := ba2 h
  exact ⟨He.eqO_ok h1, He.eqO_ok h2, of_decide_eq_true h3, of_decide_eq_true h4, hc, fun n hn => of_decide_eq_true (List.all_eq_true.mp h5 n hn), fun n hn => of_decide_eq_true (List.all_eq_true.mp h6 n hn)⟩
def xAll (T : Tab) (K : PySem.W.Frag) : Bool := T.xt.all (xtB T K) && (T.xi.all (x1B K) && ((T.xi.all fun r => T.xt.any fun q => decide (q.1 = r.1)) && T.oc.all fun c => ocB K (He.ga K c)))
def msChk (T : Tab) : Bool := T.ms.all fun q => (match T.fns[q.2]? with
  | some fn => decide (fn.at_ = (q.1.1, some q.1.2))
  | none => false) && (T.cs.any (fun c => decide (c.1 = q.1.1)) && (!(decide (q.1.2 = Str.ofString "__eq__")) || T.oc.contains q.1.1))
def ocChk (T : Tab) : Bool := T.oc.all fun c => T.cs.any fun q => decide (q.1 = c)
theorem prog_ok {T : Tab} {K : PySem.W.Frag} {mg : Str → Option Value} {h : Heap} (X : K.In h) (G : h.Ns mainGlobals mg) (hfa : ∀ f ∈ faOf T, f.ok K = true) (hms : msChk T = true) (hoc : ocChk T = true) (hfn : AllP (FnFact T K) T.fns) (hx : xAll T K = true) (hxi : ∀ q ∈ T.xi, XFact K q) (hisn : ∀ f ∈ T.isn, IsnFact T K f) : ProgOk T K mg := by
  have f1 : ∀ f ∈ faCls T, f.ok K = true := fun f hf => hfa f (List.mem_append_left _ hf)
  have f2 : ∀ f ∈ faGlo T, f.ok K = true := fun f hf => hfa f (List.mem_append_right _ (List.mem_append_left _ hf))
  have f3 : ∀ f ∈ faMth T, f.ok K = true := fun f hf => hfa f (List.mem_append_right _ (List.mem_append_right _ (List.mem_append_left _ hf)))
  have f4 : ∀ f ∈ faMak T, f.ok K = true := fun f hf => hfa f (List.mem_append_right _ (List.mem_append_right _ (List.mem_append_right _ (List.mem_append_left _ hf))))
  have f5 : ∀ f ∈ freeN.map He.Fa.free, f.ok K = true := fun f hf => hfa f (List.mem_append_right _ (List.mem_append_right _ (List.mem_append_right _ (List.mem_append_right _ (List.mem_append_right _ (List.mem_append_left _ hf))))))
  have f7 : ∀ f ∈ T.oc.map He.Fa.glo, f.ok K = true := fun f hf => hfa f (List.mem_append_right _ (List.mem_append_right _ (List.mem_append_right _ (List.mem_append_right _ (List.mem_append_right _ (List.mem_append_right _ hf))))))
  have f6 : ∀ f ∈ faXt T, f.ok K = true := fun f hf => hfa f (List.mem_append_right _ (List.mem_append_right _ (List.mem_append_right _ (List.mem_append_right _ (List.mem_append_left _ hf)))))
  obtain ⟨x1, hx⟩ := ba2 hx
  obtain ⟨x2, hx⟩ := ba2 hx
  obtain ⟨x3, x4⟩ := ba2 hx
  have xa := fun q hq => List.all_eq_true.mp x1 q hq
  have xg : ∀ q ∈ T.xt, mg q.1 = some (.ref (He.ga K q.1)) := fun q hq => He.glo_ok X G (f6 (.glo q.1) (List.mem_map.mpr ⟨q, hq, rfl⟩))
  have hc : ∀ c ∈ T.cs, Cls K (He.ga K c.1) := fun c hc => He.cls_ok (f1 (.cls c.1) (List.mem_flatMap.mpr ⟨c, hc, by simp⟩))
  refine ⟨fun c hcc => ⟨hc c hcc, fun f hf => He.noat_ok (f1 (.noat c.1 f) (List.mem_flatMap.mpr ⟨c, hcc, by simp [hf]⟩))⟩, fun f fn e => AllP.get (P := FnFact T K) hfn e, fun f fn e hn => ?_, fun c m f hm => ?_, fun f fn c e ha => ?_, fun q hq => ⟨xg q hq, xfB_ok' (ba2 (xa q hq)).1⟩, fun q hq hn => ?_, fun q hq => ?_, fun q hq r hr => ?_, fun q hq => ⟨fun r hr => ?_, ?_⟩, fun q hq r hr => ?_, He.free_ok X G (f5 (.free "ValueError") (List.mem_cons_self ..)), fun c hcc => ?_, fun c f hm => ?_, hisn, fun x hx => ?_⟩
  · refine He.glo_ok X G (f2 (.glo fn.at_.1) (List.mem_filterMap.mpr ⟨fn, List.mem_of_getElem? e, ?_⟩))
    rw [hn]
  · have q := List.all_eq_true.mp hms _ hm
    obtain ⟨q1, q2⟩ := ba2 q
    obtain ⟨q2, _⟩ := ba2 q2
    simp only at q1
    split at q1
    · rename_i fn e
      obtain ⟨c', hc', ec⟩ := List.any_eq_true.mp q2
      have ec := of_decide_eq_true ec
      refine ⟨fn, e, of_decide_eq_true q1, He.meth_ok (f3 (.meth c m) (List.mem_map.mpr ⟨_, hm, rfl⟩)), ?_⟩
      have := hc c' hc'
      rw [ec] at this
      exact this
    · cases q1
  · have m1 : ∀ z ∈ [He.Fa.mkr fn.at_.1, He.Fa.glo fn.at_.1], z.ok K = true := fun z hz => f4 z (List.mem_flatMap.mpr ⟨fn, List.mem_of_getElem? e, by rw [ha]; rw [if_pos rfl]; rw [ha] at hz; exact hz⟩)
    have e1 : fn.at_.1 = c := by rw [ha]
    rw [e1] at m1
    exact ⟨He.mkr_ok (m1 _ (by simp)), He.glo_ok X G (m1 (.glo c) (by simp))⟩
  · obtain ⟨y1, _⟩ := ba2 (ba2 (xa q hq)).2
    rcases Bool.or_eq_true_iff.mp y1 with y | y
    · obtain ⟨r, hr, er⟩ := any_mem y
      exact absurd (of_decide_eq_true er) (hn r hr)
    · obtain ⟨c1, y⟩ := ba2 y
      obtain ⟨c2, y⟩ := ba2 y
      obtain ⟨c3, c4⟩ := ba2 y
      exact ⟨c1, c2, of_decide_eq_true c3, of_decide_eq_true c4⟩
  · obtain ⟨c1, y⟩ := ba2 (List.all_eq_true.mp x2 q hq)
    obtain ⟨c2, y⟩ := ba2 y
    obtain ⟨c3, c4⟩ := ba2 y
    obtain ⟨r, hr, er⟩ := any_mem (List.all_eq_true.mp x3 q hq)
    have er := of_decide_eq_true er
    have g := xg r hr
    rw [er] at g
    obtain ⟨x, qual, params, body, scope, fd, ps, F, B, z⟩ := hxi q hq
    exact ⟨g, oexB_ok c1, He.eqO_ok c2, _, x, qual, params, body, scope, fd, ps, F, He.eqO_ok c3, of_decide_eq_true c4, B, z⟩
  · obtain ⟨_, y⟩ := ba2 (ba2 (xa q hq)).2
    exact of_decide_eq_true (ba2 (List.all_eq_true.mp (ba2 y).1 r hr)).1
  · obtain ⟨_, y⟩ := ba2 (ba2 (xa q hq)).2
    exact of_decide_eq_true (ba2 (List.all_eq_true.mp (ba2 y).1 r hr)).2
  · obtain ⟨_, y⟩ := ba2 (ba2 (xa q hq)).2
    exact of_decide_eq_true (ba2 (ba2 y).2).1
  · obtain ⟨_, y⟩ := ba2 (ba2 (xa q hq)).2
    exact He.eqO_ok (List.all_eq_true.mp (ba2 (ba2 y).2).2 r hr)
  · refine ⟨He.glo_ok X G (f7 (.glo c) (List.mem_map.mpr ⟨c, hcc, rfl⟩)), ?_⟩
    obtain ⟨q, hq, eq⟩ := List.any_eq_true.mp (List.all_eq_true.mp hoc c hcc)
    have eq := of_decide_eq_true eq
    have := hc q hq
    rw [eq] at this
    exact ocB_ok this (List.all_eq_true.mp x4 c hcc)
  · obtain ⟨_, q2⟩ := ba2 (List.all_eq_true.mp hms _ hm)
    obtain ⟨_, q3⟩ := ba2 q2
    simpa using q3
  · exact He.free_ok X G (f5 (.free x) (List.mem_map.mpr ⟨x, List.mem_cons_of_mem _ hx, rfl⟩))
/-- the law's own promise holds where the evaluator says True -/
theorem law_sp {T : Tab} {K : PySem.W.Frag} {n i : Nat} {H : Hp} {a : Addr} {ns : List Int} {E : XK} (hS : SqL K H a (ns.map V.int)) (h : ∃ r, run T n i [.lst .frz (ns.map D.int)] = some r ∧ r.1 = .bl true) :
    spOf K 1 (run T n i) (runX T n i) [.ref a] H (fun v _ => v = .bl true) E := by
  obtain ⟨r, e, e1⟩ := h
  have hid0 : hid [] H = H := by funext b; unfold hid; simp
  have rep : ∀ ns : List Int, Reps K H H (ns.map V.int) (ns.map D.int) [] := by
    intro ns
    induction ns with
    | nil => exact .nil
    | cons n ns ih => exact Reps.cons (F1 := []) (F2 := []) (.int n) ih
  refine ⟨H, [], [.lst .frz (ns.map D.int)], rfl, rfl, ⟨fun b hb => by simp at hb, [], List.nodup_nil, ?_, by rw [hid0]; exact Le.refl⟩, .inl ⟨r, e, fun v H' h' => ?_⟩⟩
  · rw [List.append_nil, hid0]
    exact RepO.cons (F1 := []) (F2 := []) (.lstF hS (rep ns)) .nil
  · rw [e1] at h'
    exact h'.isBl
/-- the law's def, at its own function object -/
theorem law_fn {T : Tab} {P : Program} {w : World} {K : PySem.W.Frag} {mg : Str → Option Value} {base : Heap} (O : ProgOk T K mg) (n : Nat) {i : Nat} {fn : Fn} (e : T.fns[i]? = some fn) {x qual : Str} {params : Arguments} {body : List Stmt} {scope : Scope} {fd : FuncData}
    (F : FunD K x qual params body scope [] [] (He.fAd K fn.at_) fd) (hck : defChk T fn body scope = true) : FnOk P w K mg base (L2N.CX P w) (2 * (n + 1) + 2) (He.fAd K fn.at_) fd fn.ps (spOf K fn.ps.length (run T (n + 1) i) (runX T (n + 1) i)) :=
  fn_step O (table_ok O n) e F hck
theorem run_eq {T : Tab} {k f : Nat} {fn : Fn} {ds : List D} (h : T.fns[f]? = some fn) : run T (k + 1) f ds = runFn ⟨run T k, runX T k, T.cs, T.ms, T.xt⟩ fn ds := by
  rw [run_s, h]
  rfl
theorem runX_eq {T : Tab} {k f : Nat} {fn : Fn} {ds : List D} (h : T.fns[f]? = some fn) : runX T (k + 1) f ds = runFnX ⟨run T k, runX T k, T.cs, T.ms, T.xt⟩ fn ds := by
  rw [runX_s, h]
  rfl
theorem AllP.mem {α : Type} {P : α → Prop} : ∀ {l : List α}, AllP P l → ∀ x ∈ l, P x
  | [], _, x, h => by simp at h
  | y :: l, a, x, h => by
    rcases List.mem_cons.mp h with rfl | h
    · exact a.1
    · exact AllP.mem a.2 x h
/-- the law's end, where what leaves a def hangs on the world -/
theorem law_end {l : PySem.W.OpenLaw} {n k : Nat} {q : Program} {loose : List Str} {XP : (Str → Option Value) → Heap → Prop} {YP : World → Heap → Prop} {d : DefRec} {x : Str} (most : l.most = some n) (small : n ≤ sizeLine) (nodef : d.params.defaults = []) (room : Room k callerA)
    (F : ∀ (w : World) (mg : Str → Option Value) (fa : Addr) (h : Heap), YP w h → h.Ns mainGlobals mg → mg d.name = some (.ref fa) → ∃ (K : PySem.W.Frag) (fd : FuncData) (sp : Sp), K.In h ∧ (∀ (s : Shared) (u : Value), BindsTo s fd ⟨[u], []⟩ [(x, u)]) ∧
      (∀ (H : Hp) (a : Addr) (ns : List Int), ns.length ≤ n → Only H → SqL K H a (ns.map V.int) → sp [.ref a] H (fun v _ => v = .bl true) fun _ _ _ => False) ∧ ∀ base : Heap, K.In base → base.Ns mainGlobals mg → FnOk l.prog w K mg base (L2N.CX l.prog w) k fa fd [x] sp) :
    PySem.W.WalkO q loose XP YP l.row.toRowW d [] (fun f vs => PySem.call f vs) :=
  Att.attach_call most nodef fun w _ t1 mg _ fa _ _ _ _ a _ ns G Y _ _ _ hmg hobj hints hlen hg => by
    obtain ⟨K, fd, sp, KX, hb, hsp, hF⟩ := F w mg fa _ Y G.T.g hmg
    refine law_call KX G.T.g G.T.b G.T.builtins G.T.nolimit hg hobj hints (Nat.le_trans hlen small) room hF hb (fun H hO hS => hsp H a ns hlen hO hS) fun H e s' z => ?_
    obtain ⟨_, _, _, _, _, _, _, _, _, _, _, _, z⟩ := z
    exact z
end FL

/-! F20: how to reckon with the evaluator. -/
namespace FL
open PySem PySem.Spec PyProof.Rows L2
/-! ### environments -/
theorem gS0 (d : Option D) (ρ : Env) : getS (d :: ρ) 0 = d := by unfold getS; cases d <;> rfl
theorem gSs (d : Option D) (ρ : Env) (i : Nat) : getS (d :: ρ) (i + 1) = getS ρ i := by unfold getS; simp
theorem pS0 (x : Option D) (d : D) (ρ : Env) : putS (x :: ρ) 0 d = some (some d :: ρ) := by simp [putS]
theorem pSs (x : Option D) (d : D) (ρ : Env) (i : Nat) : putS (x :: ρ) (i + 1) d = (putS ρ i d).map (x :: ·) := by
  unfold putS
  simp only [List.length_cons, Nat.add_lt_add_iff_right, List.set_cons_succ]
  split <;> rfl
/-! ### the evaluator, construct by construct -/
section
variable (Γ : Ctx) (ρ : Env)
@[simp] theorem e_cst (c : Cst) : evE Γ (.cst c) ρ = some (evCst c, ρ) := by simp only [evE]
@[simp] theorem e_var (i : Nat) : evE Γ (.var i) ρ = (getS ρ i).map fun d => (share d, ρ.set i (some (share d))) := by simp only [evE]
@[simp] theorem e_mov (i : Nat) : evE Γ (.mov i) ρ = (getS ρ i).map fun d => (d, ρ.set i none) := by simp only [evE]
@[simp] theorem e_bin (op : BOp) (a b : E) : evE Γ (.bin op a b) ρ = (evE Γ a ρ).bind fun p => (evE Γ b p.2).bind fun q => (binD op p.1 q.1).map fun d => (d, q.2) := by simp only [evE]
def negD : D → Option D
  | .int i => some (.int (-i))
  | _ => none
def notD : D → Option D
  | .bl b => some (.bl (!b))
  | _ => none
@[simp] theorem negD_int (i : Int) : negD (.int i) = some (.int (-i)) := Eq.trans rfl rfl
@[simp] theorem notD_bl (b : Bool) : notD (.bl b) = some (.bl (!b)) := Eq.trans rfl rfl
@[simp] theorem e_neg (a : E) : evE Γ (.neg a) ρ = (evE Γ a ρ).bind fun p => (negD p.1).map fun d => (d, p.2) := by
  simp only [evE]; congr 1; funext p; obtain ⟨d, r⟩ := p; cases d <;> rfl
@[simp] theorem e_not (a : E) : evE Γ (.not a) ρ = (evE Γ a ρ).bind fun p => (notD p.1).map fun d => (d, p.2) := by
  simp only [evE]; congr 1; funext p; obtain ⟨d, r⟩ := p; cases d <;> rfl
@[simp] theorem e_and (es : Es) : evE Γ (.and es) ρ = (evAnd Γ es ρ).map fun p => (.bl p.1, p.2) := by simp only [evE]
@[simp] theorem e_or (es : Es) : evE Γ (.or es) ρ = (evOr Γ es ρ).map fun p => (.bl p.1, p.2) := by simp only [evE]
@[simp] theorem e_cmp (op : COp) (a b : E) : evE Γ (.cmp op a b) ρ = (evE Γ a ρ).bind fun p => (evE Γ b p.2).bind fun q => (cmpD op p.1 q.1).map fun d => (.bl d, q.2) := by simp only [evE]
@[simp] theorem e_chn (op op' : COp) (a b c : E) : evE Γ (.chn op op' a b c) ρ = (evE Γ a ρ).bind fun p => (evE Γ b p.2).bind fun q => (cmpD op p.1 (share q.1)).bind fun d => if d = true then (evE Γ c q.2).bind fun r => (cmpD op' (share q.1) r.1).map fun d' => (.bl d', r.2) else some (.bl false, q.2) := by simp only [evE]
@[simp] theorem e_lst (es : Es) : evE Γ (.lst es) ρ = (evEs Γ es ρ).bind fun p => if p.1.length ≤ SZ then some (.lst .own p.1, p.2) else none := by simp only [evE]
@[simp] theorem e_tup (es : Es) : evE Γ (.tup es) ρ = (evEs Γ es ρ).bind fun p => if p.1.length ≤ SZ then some (.tup p.1, p.2) else none := by simp only [evE]
@[simp] theorem e_idx (a b : E) : evE Γ (.idx a b) ρ = (evE Γ a ρ).bind fun p => (evE Γ b p.2).bind fun q => (idxD p.1 q.1).map fun d => (d, q.2) := by simp only [evE]
@[simp] theorem e_idv (i : Nat) (b : E) : evE Γ (.idv i b) ρ = (getS ρ i).bind fun _ => (evE Γ b ρ).bind fun p => (getS p.2 i).bind fun x => (idvD x p.1).map fun r => (r.1, p.2.set i (some r.2)) := by simp only [evE]
@[simp] theorem e_slc (a : E) (lo hi : OE) : evE Γ (.slc a lo hi) ρ = (evE Γ a ρ).bind fun p => (evO Γ lo p.2).bind fun l => (evO Γ hi l.2).bind fun h => (slcD p.1 l.1 h.1).map fun d => (d, h.2) := by simp only [evE]
@[simp] theorem e_call (f : Nat) (as : As) : evE Γ (.call f as) ρ = (evAs Γ as ρ).bind fun p => (takeA as p.1 p.2).bind fun q => (Γ.fs f q.1).bind fun r => (putA as r.2 q.2).map fun ρ' => (r.1, ρ') := by simp only [evE]
@[simp] theorem e_meth (m : PySem.Str) (o : A) (as : As) : evE Γ (.meth m o as) ρ = (evA Γ o ρ).bind fun x => (recvD o x.1 x.2).bind fun s => (methD Γ.ms m s).bind fun f => (evAs Γ as x.2).bind fun p => (takeA (.cons o as) (x.1 :: p.1) p.2).bind fun q => (Γ.fs f q.1).bind fun r => (putA (.cons o as) r.2 q.2).map fun ρ' => (r.1, ρ') := by simp only [evE]
def madeD : D × List (Option D) → Option (D × List (Option D))
  | (.non, some d :: os) => some (d, os)
  | _ => none
@[simp] theorem madeD_mk (d : D) (os : List (Option D)) : madeD (.non, some d :: os) = some (d, os) := Eq.trans rfl rfl
@[simp] theorem e_make (c : PySem.Str) (f : Nat) (as : As) : evE Γ (.make c f as) ρ = (evAs Γ as ρ).bind fun p => (takeA as p.1 p.2).bind fun q => (Γ.fs f (.obj .own c [] [] :: q.1)).bind fun r => (madeD r).bind fun z => (putA as z.2 q.2).map fun ρ' => (z.1, ρ') := by
  simp only [evE]; congr 1; funext p; congr 1; funext q; congr 1; funext r
  obtain ⟨d, os⟩ := r
  cases d <;> (cases os with
    | nil => rfl
    | cons o os => cases o <;> rfl)
@[simp] theorem e_blt (b : Blt) (es : Es) : evE Γ (.blt b es) ρ = (evEs Γ es ρ).bind fun p => (bltD b p.1).map fun d => (d, p.2) := by simp only [evE]
@[simp] theorem e_isi (a : E) (t : Ty) : evE Γ (.isi a t) ρ = (evE Γ a ρ).bind fun p => (isiD p.1 t).map fun b => (.bl b, p.2) := by simp only [evE]
@[simp] theorem e_fld (a : E) (f : PySem.Str) : evE Γ (.fld a f) ρ = (evE Γ a ρ).bind fun p => if hasFld Γ.cs f p.1 = true then (fldD p.1 f).map fun d => (d, p.2) else none := by simp only [evE]
@[simp] theorem e_flv (i : Nat) (f : PySem.Str) : evE Γ (.flv i f) ρ = (getS ρ i).bind fun x => if hasFld Γ.cs f x = true then (flvD x f).map fun r => (r.1, ρ.set i (some r.2)) else none := by simp only [evE]
@[simp] theorem e_comp (elt : E) (t : Tg) (it : It) (cond : OE) : evE Γ (.comp elt t it cond) ρ = (evIt Γ it ρ).bind fun p => (compL (bindT t) (evC Γ cond) (evE Γ elt) t.slots p.1 (wipeD p.2 t.slots) []).map fun q => (.lst .own q.1, q.2) := by simp only [evE]
@[simp] theorem e_shr (a : E) : evE Γ (.shr a) ρ = (evE Γ a ρ).map fun p => (share p.1, p.2) := by simp only [evE]
@[simp] theorem e_lnv (i : Nat) : evE Γ (.lnv i) ρ = (getS ρ i).bind fun d => (lenD d).map fun n => (n, ρ) := by simp only [evE]
def asB' : D → Option Bool
  | .bl b => some b
  | _ => none
@[simp] theorem asB'_bl (b : Bool) : asB' (.bl b) = some b := Eq.trans rfl rfl
@[simp] theorem e_comp2 (elt : E) (t1 : Tg) (it1 : It) (t2 : Tg) (it2 : It) (cond : OE) : evE Γ (.comp2 elt t1 it1 t2 it2 cond) ρ = (evIt Γ it1 ρ).bind fun p => (comp2L t1 t2 (evIt Γ it2) (evC Γ cond) (evE Γ elt) p.1 (wipeD p.2 (t1.slots ++ t2.slots)) []).map fun q => (.lst .own q.1, q.2) := by simp only [evE]
@[simp] theorem e_bor (a : E) : evE Γ (.bor a) ρ = (evE Γ a (viewD ρ)).bind fun p => if closedD p.1 = true then some (p.1, ρ) else none := by simp only [evE]
@[simp] theorem e_ite (c a b : E) : evE Γ (.ite c a b) ρ = (evE Γ c ρ).bind fun p => (asB' p.1).bind fun k => if k = true then evE Γ a p.2 else evE Γ b p.2 := by
  simp only [evE]; congr 1; funext p; obtain ⟨d, r⟩ := p
  cases d with
  | bl b => cases b <;> rfl
  | _ => rfl
@[simp] theorem viewD_nil : viewD [] = [] := by simp [viewD]
@[simp] theorem viewD_cons (o : Option D) (ρ : Env) : viewD (o :: ρ) = o.map share :: viewD ρ := by simp [viewD]
@[simp] theorem cl_tup (xs : List D) : closedD (.tup xs) = closedL xs := by simp only [closedD]
@[simp] theorem cl_lst (xs : List D) : closedD (.lst .own xs) = closedL xs := by simp only [closedD]
@[simp] theorem cl_bl (b : Bool) : closedD (.bl b) = true := by simp only [closedD]
@[simp] theorem cl_int (b : Int) : closedD (.int b) = true := by simp only [closedD]
@[simp] theorem cl_str (b : PySem.Str) : closedD (.str b) = true := by simp only [closedD]
@[simp] theorem cl_non : closedD .non = true := by simp only [closedD]
@[simp] theorem cl_nil : closedL [] = true := by simp only [closedL]
@[simp] theorem cl_cons (d : D) (ds : List D) : closedL (d :: ds) = (closedD d && closedL ds) := by simp only [closedL]
theorem closedL_all (ds : List D) : closedL ds = ds.all closedD := by
  induction ds with
  | nil => simp
  | cons d ds ih => simp [ih]
def asB : D → Option Bool
  | .bl b => some b
  | _ => none
@[simp] theorem asB_bl (b : Bool) : asB (.bl b) = some b := Eq.trans rfl rfl
@[simp] theorem c_no : evC Γ .no ρ = some (true, ρ) := by simp only [evC]
@[simp] theorem c_yes (e : E) : evC Γ (.yes e) ρ = (evE Γ e ρ).bind fun p => (asB p.1).map fun b => (b, p.2) := by
  simp only [evC]; congr 1; funext p; obtain ⟨d, r⟩ := p; cases d <;> rfl
def asI : D → Option Int
  | .int i => some i
  | _ => none
@[simp] theorem asI_int (i : Int) : asI (.int i) = some i := Eq.trans rfl rfl
@[simp] theorem o_no : evO Γ .no ρ = some (none, ρ) := by simp only [evO]
@[simp] theorem o_yes (e : E) : evO Γ (.yes e) ρ = (evE Γ e ρ).bind fun p => (asI p.1).map fun b => (some b, p.2) := by
  simp only [evO]; congr 1; funext p; obtain ⟨d, r⟩ := p; cases d <;> rfl
@[simp] theorem and_1 (e : E) : evAnd Γ (.cons e .nil) ρ = (evE Γ e ρ).bind fun p => (asB p.1).map fun b => (b, p.2) := by
  simp only [evAnd]; congr 1; funext p; obtain ⟨d, r⟩ := p; cases d <;> rfl
@[simp] theorem and_2 (e e' : E) (es : Es) : evAnd Γ (.cons e (.cons e' es)) ρ = (evE Γ e ρ).bind fun p => (asB p.1).bind fun b => if b = true then evAnd Γ (.cons e' es) p.2 else some (false, p.2) := by
  rw [evAnd]
  · congr 1; funext p; obtain ⟨d, r⟩ := p
    cases d with
    | bl b => cases b <;> rfl
    | _ => rfl
  · simp
@[simp] theorem or_1 (e : E) : evOr Γ (.cons e .nil) ρ = (evE Γ e ρ).bind fun p => (asB p.1).map fun b => (b, p.2) := by
  simp only [evOr]; congr 1; funext p; obtain ⟨d, r⟩ := p; cases d <;> rfl
@[simp] theorem or_2 (e e' : E) (es : Es) : evOr Γ (.cons e (.cons e' es)) ρ = (evE Γ e ρ).bind fun p => (asB p.1).bind fun b => if b = true then some (true, p.2) else evOr Γ (.cons e' es) p.2 := by
  rw [evOr]
  · congr 1; funext p; obtain ⟨d, r⟩ := p
    cases d with
    | bl b => cases b <;> rfl
    | _ => rfl
  · simp
@[simp] theorem es_nil : evEs Γ .nil ρ = some ([], ρ) := by simp only [evEs]
@[simp] theorem es_cons (e : E) (es : Es) : evEs Γ (.cons e es) ρ = (evE Γ e ρ).bind fun p => (evEs Γ es p.2).map fun q => (p.1 :: q.1, q.2) := by simp only [evEs]
def itemsO : D → Option (List D)
  | .tup xs => some (shares xs)
  | .lst _ xs => some (shares xs)
  | _ => none
@[simp] theorem itemsO_tup (xs : List D) : itemsO (.tup xs) = some (shares xs) := Eq.trans rfl rfl
@[simp] theorem itemsO_lst (f : Fl) (xs : List D) : itemsO (.lst f xs) = some (shares xs) := Eq.trans rfl rfl
@[simp] theorem es_star (e : E) (es : Es) : evEs Γ (.star e es) ρ = (evE Γ e ρ).bind fun p => (itemsO p.1).bind fun xs => (evEs Γ es p.2).map fun q => (xs ++ q.1, q.2) := by
  simp only [evEs]; congr 1; funext p; obtain ⟨d, r⟩ := p; cases d <;> rfl
@[simp] theorem a_val (e : E) : evA Γ (.val e) ρ = (evE Γ e ρ).map fun p => (some p.1, p.2) := by simp only [evA]
@[simp] theorem a_ref (i : Nat) : evA Γ (.ref i) ρ = (getS ρ i).map fun _ => (none, ρ) := by simp only [evA]
@[simp] theorem as_nil : evAs Γ .nil ρ = some ([], ρ) := by simp only [evAs]
@[simp] theorem as_cons (a : A) (as : As) : evAs Γ (.cons a as) ρ = (evA Γ a ρ).bind fun p => (evAs Γ as p.2).map fun q => (p.1 :: q.1, q.2) := by simp only [evAs]
@[simp] theorem it_seq (e : E) : evIt Γ (.seq e) ρ = (evE Γ e ρ).bind fun p => (itemsO p.1).map fun xs => (xs, p.2) := by
  simp only [evIt]; congr 1; funext p; obtain ⟨d, r⟩ := p; cases d <;> rfl
noncomputable def rngO : D → Option (List D)
  | .int n => @ite _ (-(2 ^ 62) ≤ n ∧ n < 2 ^ 62) (Classical.propDecidable _) (some (rngL 0 n.toNat)) none
  | _ => none
@[simp] theorem it_rng (e : E) : evIt Γ (.rng e) ρ = (evE Γ e ρ).bind fun p => (rngO p.1).map fun xs => (xs, p.2) := by
  simp only [evIt]; congr 1; funext p; obtain ⟨d, r⟩ := p
  cases d with
  | int n =>
    simp only [rngO]
    by_cases h : -(2 ^ 62) ≤ n ∧ n < 2 ^ 62
    · rw [if_pos h, if_pos h]; rfl
    · rw [if_neg h, if_neg h]; rfl
  | _ => rfl
def zipO : D → D → Option (List D)
  | .lst _ xs, .lst _ ys => some (zipL (shares xs) (shares ys))
  | _, _ => none
@[simp] theorem zipO_lst (f g : Fl) (xs ys : List D) : zipO (.lst f xs) (.lst g ys) = some (zipL (shares xs) (shares ys)) := Eq.trans rfl rfl
@[simp] theorem it_zip (a b : E) : evIt Γ (.zip a b) ρ = (evE Γ a ρ).bind fun p => (evE Γ b p.2).bind fun q => (zipO p.1 q.1).map fun xs => (xs, q.2) := by
  simp only [evIt]; congr 1; funext p; congr 1; funext q; obtain ⟨d, r⟩ := p; obtain ⟨d', r'⟩ := q; cases d <;> cases d' <;> rfl
def enumO : D → Option (List D)
  | .lst _ xs => some (enumL 0 (shares xs))
  | _ => none
@[simp] theorem enumO_lst (f : Fl) (xs : List D) : enumO (.lst f xs) = some (enumL 0 (shares xs)) := Eq.trans rfl rfl
@[simp] theorem it_enum (e : E) : evIt Γ (.enum e) ρ = (evE Γ e ρ).bind fun p => (enumO p.1).map fun xs => (xs, p.2) := by
  simp only [evIt]; congr 1; funext p; obtain ⟨d, r⟩ := p; cases d <;> rfl
/-! statements -/
@[simp] theorem s_set (t : Tg) (e : E) : exS Γ (.set t e) ρ = (evE Γ e ρ).bind fun p => (bindT t p.1 p.2).map .nx := by simp only [exS]
@[simp] theorem s_setI (i : Nat) (b e : E) : exS Γ (.setI i b e) ρ = (evE Γ e ρ).bind fun p => (getS p.2 i).bind fun _ => (evE Γ b p.2).bind fun q => (getS q.2 i).bind fun x => (setID x q.1 p.1).map fun z => .nx (q.2.set i (some z)) := by simp only [exS]
@[simp] theorem s_setF (i : Nat) (f : PySem.Str) (e : E) : exS Γ (.setF i f e) ρ = (evE Γ e ρ).bind fun p => (getS p.2 i).bind fun x => if hasFld Γ.cs f x = true then (setFD x f p.1).map fun z => .nx (p.2.set i (some z)) else none := by simp only [exS]
@[simp] theorem s_aug (i : Nat) (op : BOp) (e : E) : exS Γ (.aug i op e) ρ = (getS ρ i).bind fun x => (evE Γ e ρ).bind fun p => (augD op x p.1).bind fun z => (putS p.2 i z).map .nx := by simp only [exS]
@[simp] theorem s_app (i : Nat) (e : E) : exS Γ (.app i e) ρ = (getS ρ i).bind fun x0 => if isLst x0 = true then (evE Γ e ρ).bind fun p => (getS p.2 i).bind fun x => (appD x p.1).map fun z => .nx (p.2.set i (some z)) else none := by simp only [exS]
@[simp] theorem s_ex (e : E) : exS Γ (.ex e) ρ = (evE Γ e ρ).map fun p => .nx p.2 := by simp only [exS]
@[simp] theorem s_ite (c : E) (a b : Ss) : exS Γ (.ite c a b) ρ = (evE Γ c ρ).bind fun p => (asB p.1).bind fun k => if k = true then exSs Γ a p.2 else exSs Γ b p.2 := by
  simp only [exS]; congr 1; funext p; obtain ⟨d, r⟩ := p
  cases d with
  | bl b => cases b <;> rfl
  | _ => rfl
@[simp] theorem s_loop (t : Tg) (it : It) (b : Ss) : exS Γ (.loop t it b) ρ = (evIt Γ it ρ).bind fun p => forL (bindT t) (exSs Γ b) p.1 p.2 := by simp only [exS]
@[simp] theorem s_whl (c : E) (b : Ss) : exS Γ (.whl c b) ρ = whlD (evC Γ (.yes c)) (exSs Γ b) ρ := by simp only [exS]
@[simp] theorem s_ret (e : E) : exS Γ (.ret e) ρ = (evE Γ e ρ).map fun p => .rt p.1 p.2 := by simp only [exS]
@[simp] theorem s_retN : exS Γ .retN ρ = some (.rt .non ρ) := by simp only [exS]
@[simp] theorem s_brk : exS Γ .brk ρ = some (.bk ρ) := by simp only [exS]
@[simp] theorem s_cnt : exS Γ .cnt ρ = some (.ct ρ) := by simp only [exS]
@[simp] theorem s_pass : exS Γ .pass ρ = some (.nx ρ) := by simp only [exS]
@[simp] theorem s_setP (p : Pl) (ix : Ix) (e : E) : exS Γ (.setP p ix e) ρ = (evE Γ e ρ).bind fun q => (getP q.2 p).bind fun x => (ixD q.2 ix).bind fun n => (setID x (.int n) q.1).bind fun x' => (putP q.2 p x').map fun z => .nx (q.2.set p.base (some z)) := by simp only [exS]
@[simp] theorem s_mutP (p : Pl) (op : MOp) (es : Es) : exS Γ (.mutP p op es) ρ = (getP ρ p).bind fun x => (lstO x).bind fun ds => (evEs Γ es (ρ.set p.base none)).bind fun q => (mopD op ds q.1).bind fun ds' => (putP ρ p (.lst .own ds')).map fun z => .nx (q.2.set p.base (some z)) := by simp only [exS]
def borF (is : List Nat) (ρ : Env) (x : Option Flow) : Option Flow := x.bind fun fl => match fl with
    | .nx _ => some (.nx (wipeD ρ is))
    | .rt d _ => if closedD d = true then some (.rt d (wipeD ρ is)) else none
    | _ => none
@[simp] theorem s_bor (is : List Nat) (s : S) : exS Γ (.bor is s) ρ = borF is ρ (exS Γ s (viewD ρ)) := by simp only [exS]; rfl
@[simp] theorem borF_nx (is : List Nat) (r : Env) : borF is ρ (some (.nx r)) = some (.nx (wipeD ρ is)) := Eq.trans rfl rfl
@[simp] theorem borF_rt (is : List Nat) (d : D) (r : Env) : borF is ρ (some (.rt d r)) = if closedD d = true then some (.rt d (wipeD ρ is)) else none := Eq.trans rfl rfl
/-- what follows a statement -/
def thenS (x : Option Flow) (k : Env → Option Flow) : Option Flow := x.bind fun fl => match fl with
  | .nx ρ1 => k ρ1
  | fl => some fl
@[simp] theorem thenS_nx (k : Env → Option Flow) : thenS (some (.nx ρ)) k = k ρ := Eq.trans rfl rfl
@[simp] theorem thenS_rt (d : D) (k : Env → Option Flow) : thenS (some (.rt d ρ)) k = some (.rt d ρ) := Eq.trans rfl rfl
@[simp] theorem thenS_bk (k : Env → Option Flow) : thenS (some (.bk ρ)) k = some (.bk ρ) := Eq.trans rfl rfl
@[simp] theorem thenS_ct (k : Env → Option Flow) : thenS (some (.ct ρ)) k = some (.ct ρ) := Eq.trans rfl rfl
@[simp] theorem ss_nil : exSs Γ .nil ρ = some (.nx ρ) := by simp only [exSs]
@[simp] theorem ss_cons (s : S) (ss : Ss) : exSs Γ (.cons s ss) ρ = thenS (exS Γ s ρ) (exSs Γ ss) := by
  simp only [exSs, thenS] <;> rfl
theorem ss_alt (a b : Ss) : exSs Γ (.alt a b) ρ = altF (exSs Γ a ρ) (exSs Γ b ρ) := by simp only [exSs]
theorem alt_l {a b : Option Flow} {fl : Flow} (h : a = some fl) : altF a b = some fl := by rw [h]; rfl
theorem alt_r {a b : Option Flow} (h : a = none) : altF a b = b := by rw [h]; rfl
theorem ss_ali2 (t i : Nat) (p : Pl) (body rest : Ss) : exSs Γ (.ali2 t i p body rest) ρ = (getP ρ p).bind fun y => (pair2 y).bind fun ab => (ixsD ρ (.sub p (.c 1))).bind fun ns => thenS (allV fun v => ((putP ρ (.sub p (.c 1)) (.hole v)).bind fun z => (putS (ρ.set p.base (some z)) t ab.1).bind fun ρ0 => putS ρ0 i ab.2).bind fun ρ1 => (exSs Γ body ρ1).bind (giveF i p.base ns v)) (exSs Γ rest) := by
  simp only [exSs, thenS] <;> rfl
theorem ss_ali (i : Nat) (p : Pl) (body rest : Ss) : exSs Γ (.ali i p body rest) ρ = (getP ρ p).bind fun y => (ixsD ρ p).bind fun ns => thenS (allV fun v => ((putP ρ p (.hole v)).bind fun z => putS (ρ.set p.base (some z)) i y).bind fun ρ1 => (exSs Γ body ρ1).bind (giveF i p.base ns v)) (exSs Γ rest) := by
  simp only [exSs, thenS] <;> rfl
end
/-- a def's end -/
def endF (io : List Nat) (n : Nat) (x : Option Flow) : Option (D × List (Option D)) := x.bind fun fl => match fl with
  | .nx ρ => some (.non, outsFrom io ρ 0 n)
  | .rt d ρ => some (d, outsFrom io ρ 0 n)
  | _ => none
@[simp] theorem endF_nx (io : List Nat) (n : Nat) (ρ : Env) : endF io n (some (.nx ρ)) = some (.non, outsFrom io ρ 0 n) := Eq.trans rfl rfl
@[simp] theorem endF_rt (io : List Nat) (n : Nat) (d : D) (ρ : Env) : endF io n (some (.rt d ρ)) = some (d, outsFrom io ρ 0 n) := Eq.trans rfl rfl
theorem runFn_eq {Γ : Ctx} {fn : Fn} {ds : List D} (h : ds.length = fn.ps.length) : runFn Γ fn ds = endF fn.io fn.ps.length (exSs Γ fn.body (ds.map some ++ List.replicate (fn.N.length - ds.length) none)) := by
  unfold runFn endF
  (rw [if_pos h]) <;> rfl
@[simp] theorem gS0' (d : Option D) (ρ : Env) : getS (d :: ρ) 0 = d := gS0 d ρ
@[simp] theorem gSs' (d : Option D) (ρ : Env) (i : Nat) : getS (d :: ρ) (i + 1) = getS ρ i := gSs d ρ i
@[simp] theorem pS0' (x : Option D) (d : D) (ρ : Env) : putS (x :: ρ) 0 d = some (some d :: ρ) := pS0 x d ρ
@[simp] theorem pSs' (x : Option D) (d : D) (ρ : Env) (i : Nat) : putS (x :: ρ) (i + 1) d = (putS ρ i d).map (x :: ·) := pSs x d ρ i
@[simp] theorem bT_name (i : Nat) (d : D) (ρ : Env) : bindT (.name i) d ρ = putS ρ i d := Eq.trans rfl rfl
@[simp] theorem bT_names (is : List Nat) (ds : List D) (ρ : Env) : bindT (.names is) (.tup ds) ρ = if is.length = ds.length then putAll ρ is ds else none := Eq.trans rfl rfl
@[simp] theorem pA_nil (ρ : Env) : putAll ρ [] [] = some ρ := Eq.trans rfl rfl
@[simp] theorem pA_cons (ρ : Env) (i : Nat) (is : List Nat) (d : D) (ds : List D) : putAll ρ (i :: is) (d :: ds) = (putS ρ i d).bind fun ρ1 => putAll ρ1 is ds := Eq.trans rfl rfl
@[simp] theorem tk_nil (ρ : Env) : takeA .nil [] ρ = some ([], ρ) := Eq.trans rfl rfl
@[simp] theorem tk_val (e : E) (as : As) (d : D) (ds : List (Option D)) (ρ : Env) : takeA (.cons (.val e) as) (some d :: ds) ρ = (takeA as ds ρ).map fun p => (d :: p.1, p.2) := Eq.trans rfl rfl
@[simp] theorem tk_ref (i : Nat) (as : As) (ds : List (Option D)) (ρ : Env) : takeA (.cons (.ref i) as) (none :: ds) ρ = (getS ρ i).bind fun d => (takeA as ds (ρ.set i none)).map fun p => (d :: p.1, p.2) := Eq.trans rfl rfl
@[simp] theorem pt_nil (ρ : Env) : putA .nil [] ρ = some ρ := Eq.trans rfl rfl
@[simp] theorem pt_val (e : E) (as : As) (o : Option D) (os : List (Option D)) (ρ : Env) : putA (.cons (.val e) as) (o :: os) ρ = putA as os ρ := Eq.trans rfl rfl
@[simp] theorem pt_ref (i : Nat) (as : As) (d : D) (os : List (Option D)) (ρ : Env) : putA (.cons (.ref i) as) (some d :: os) ρ = putA as os (ρ.set i (some d)) := Eq.trans rfl rfl
@[simp] theorem rv_val (e : E) (x : Option D) (ρ : Env) : recvD (.val e) x ρ = x := Eq.trans rfl rfl
@[simp] theorem rv_ref (i : Nat) (x : Option D) (ρ : Env) : recvD (.ref i) x ρ = getS ρ i := Eq.trans rfl rfl
@[simp] theorem slots_name (i : Nat) : (Tg.name i).slots = [i] := Eq.trans rfl rfl
@[simp] theorem slots_names (is : List Nat) : (Tg.names is).slots = is := Eq.trans rfl rfl
@[simp] theorem wipeD_nil (ρ : Env) : wipeD ρ [] = ρ := Eq.trans rfl rfl
@[simp] theorem wipeD_cons (ρ : Env) (v : Nat) (vs : List Nat) : wipeD ρ (v :: vs) = (wipeD ρ vs).set v none := Eq.trans rfl rfl
@[simp] theorem outs_0 (io : List Nat) (ρ : Env) (i : Nat) : outsFrom io ρ i 0 = [] := Eq.trans rfl rfl
@[simp] theorem outs_s (io : List Nat) (ρ : Env) (i n : Nat) : outsFrom io ρ i (n + 1) = (if i ∈ io then getS ρ i else none) :: outsFrom io ρ (i + 1) n := Eq.trans rfl rfl
/-! ### operations on known data -/
@[simp] theorem cst_non : evCst .non = .non := Eq.trans rfl rfl
@[simp] theorem cst_bl (b : Bool) : evCst (.bl b) = .bl b := Eq.trans rfl rfl
@[simp] theorem cst_int (i : Int) : evCst (.int i) = .int i := Eq.trans rfl rfl
@[simp] theorem cst_str (x : PySem.Str) : evCst (.str x) = .str x := Eq.trans rfl rfl
@[simp] theorem b_add (a b : Int) : binD .add (.int a) (.int b) = some (.int (a + b)) := Eq.trans rfl rfl
@[simp] theorem b_sub (a b : Int) : binD .sub (.int a) (.int b) = some (.int (a - b)) := Eq.trans rfl rfl
@[simp] theorem sh_non : share .non = .non := by simp [share]
@[simp] theorem sh_bl (b : Bool) : share (.bl b) = .bl b := by simp [share]
@[simp] theorem sh_int (i : Int) : share (.int i) = .int i := by simp [share]
@[simp] theorem sh_str (x : PySem.Str) : share (.str x) = .str x := by simp [share]
@[simp] theorem sh_lst (f : Fl) (xs : List D) : share (.lst f xs) = .lst f.sh (shares xs) := by simp [share]
@[simp] theorem sh_tup (xs : List D) : share (.tup xs) = .tup (shares xs) := by simp [share]
@[simp] theorem sh_obj (f : Fl) (c : PySem.Str) (ns : List PySem.Str) (xs : List D) : share (.obj f c ns xs) = .obj f.sh c ns (shares xs) := by simp [share]
@[simp] theorem shs_nil : shares [] = [] := by simp [shares]
@[simp] theorem shs_cons (d : D) (ds : List D) : shares (d :: ds) = share d :: shares ds := by simp [shares]
@[simp] theorem shs_app (a b : List D) : shares (a ++ b) = shares a ++ shares b := by simp [shares_eq]
@[simp] theorem flsh_own : Fl.own.sh = .shr := Eq.trans rfl rfl
@[simp] theorem flsh_shr : Fl.shr.sh = .shr := Eq.trans rfl rfl
@[simp] theorem flsh_frz : Fl.frz.sh = .frz := Eq.trans rfl rfl
@[simp] theorem flsh_sh (f : Fl) : f.sh.sh = f.sh := Fl.sh_sh f
@[simp] theorem shs_shs (ds : List D) : shares (shares ds) = shares ds := shares_shares ds
@[simp] theorem sh_sh (d : D) : share (share d) = share d := share_share d
@[simp] theorem c_lt (a b : Int) : cmpD .lt (.int a) (.int b) = some (decide (a < b)) := Eq.trans rfl rfl
@[simp] theorem c_le (a b : Int) : cmpD .le (.int a) (.int b) = some (decide (a ≤ b)) := Eq.trans rfl rfl
theorem c_leT (xs ys : List Int) : cmpD .le (.tup (xs.map D.int)) (.tup (ys.map D.int)) = some (leTI xs ys) := by
  have h : ∀ zs : List Int, intsD (zs.map D.int) = some zs := fun zs => by
    induction zs with
    | nil => rfl
    | cons z zs ih => simp [intsD, ih]
  simp only [cmpD, h, Option.bind_some, Option.map_some]
theorem leTI_two (a b c d : Int) : leTI [a, b] [c, d] = if a = c then decide (b ≤ d) else decide (a ≤ c) := by
  by_cases h : a = c
  · by_cases h' : b = d
    · simp [leTI, Ob.lexAt, h, h']
    · simp [leTI, Ob.lexAt, h, h']
  · simp [leTI, Ob.lexAt, h]
@[simp] theorem c_leT2 (a b c d : Int) : cmpD .le (.tup [.int a, .int b]) (.tup [.int c, .int d]) = some (if a = c then decide (b ≤ d) else decide (a ≤ c)) := by
  rw [← leTI_two]
  exact c_leT [a, b] [c, d]
@[simp] theorem c_gt (a b : Int) : cmpD .gt (.int a) (.int b) = some (decide (b < a)) := Eq.trans rfl rfl
@[simp] theorem c_ge (a b : Int) : cmpD .ge (.int a) (.int b) = some (decide (b ≤ a)) := Eq.trans rfl rfl
@[simp] theorem c_eqI (a b : D) : cmpD .eq a b = eqD a b := by simp only [cmpD]
@[simp] theorem c_neI (a b : D) : cmpD .ne a b = (eqD a b).map (!·) := by simp only [cmpD]
@[simp] theorem i_non (n : String) : isiD .non (.bi n) = some (decide (n = "NoneType")) := Eq.trans rfl rfl
@[simp] theorem i_bl (b : Bool) (n : String) : isiD (.bl b) (.bi n) = some (decide (n = "bool" ∨ n = "int")) := Eq.trans rfl rfl
@[simp] theorem i_int (i : Int) (n : String) : isiD (.int i) (.bi n) = some (decide (n = "int")) := Eq.trans rfl rfl
@[simp] theorem i_str (x : PySem.Str) (n : String) : isiD (.str x) (.bi n) = some (decide (n = "str")) := Eq.trans rfl rfl
@[simp] theorem i_tup (xs : List D) (n : String) : isiD (.tup xs) (.bi n) = some (decide (n = "tuple")) := Eq.trans rfl rfl
@[simp] theorem i_lst (f : Fl) (xs : List D) (n : String) : isiD (.lst f xs) (.bi n) = some (decide (n = "list")) := Eq.trans rfl rfl
@[simp] theorem bl_len (ds : List D) : bltD .len ds = d1 lenD ds := Eq.trans rfl rfl
@[simp] theorem bl_int (ds : List D) : bltD .int ds = d1 FL.intD ds := Eq.trans rfl rfl
@[simp] theorem bl_list (ds : List D) : bltD .list ds = d1 listD ds := Eq.trans rfl rfl
@[simp] theorem bl_tuple (ds : List D) : bltD .tuple ds = d1 tupleD ds := Eq.trans rfl rfl
@[simp] theorem bl_max1 (ds : List D) : bltD .max1 ds = d1 max1D ds := Eq.trans rfl rfl
@[simp] theorem bl_min1 (ds : List D) : bltD .min1 ds = d1 min1D ds := Eq.trans rfl rfl
@[simp] theorem max1D_l (f : Fl) (xs : List D) : max1D (.lst f xs) = (intsD xs).bind fun ns => if ns = [] then none else some (.int (maxI ns)) := Eq.trans rfl rfl
@[simp] theorem min1D_l (f : Fl) (xs : List D) : min1D (.lst f xs) = (intsD xs).bind fun ns => if ns = [] then none else some (.int (minI ns)) := Eq.trans rfl rfl
@[simp] theorem bl_sum (ds : List D) : bltD .sum ds = d1 sumD ds := Eq.trans rfl rfl
@[simp] theorem bl_abs (ds : List D) : bltD .abs ds = d1 absD ds := Eq.trans rfl rfl
@[simp] theorem bl_min (ds : List D) : bltD .min2 ds = d2 min2D ds := Eq.trans rfl rfl
@[simp] theorem bl_max (ds : List D) : bltD .max2 ds = d2 max2D ds := Eq.trans rfl rfl
@[simp] theorem bl_all (ds : List D) : bltD .all ds = d1 allD ds := Eq.trans rfl rfl
@[simp] theorem bl_any (ds : List D) : bltD .any ds = d1 anyD ds := Eq.trans rfl rfl
@[simp] theorem d1_mk (f : D → Option D) (x : D) : d1 f [x] = f x := Eq.trans rfl rfl
@[simp] theorem d2_mk (f : D → D → Option D) (x y : D) : d2 f [x, y] = f x y := Eq.trans rfl rfl
@[simp] theorem lenD_l (f : Fl) (xs : List D) : lenD (.lst f xs) = some (.int xs.length) := Eq.trans rfl rfl
@[simp] theorem lenD_t (xs : List D) : lenD (.tup xs) = some (.int xs.length) := Eq.trans rfl rfl
@[simp] theorem intD_i (i : Int) : FL.intD (.int i) = some (.int i) := Eq.trans rfl rfl
@[simp] theorem intD_b (b : Bool) : FL.intD (.bl b) = some (.int (if b then 1 else 0)) := Eq.trans rfl rfl
@[simp] theorem listD_l (f : Fl) (xs : List D) : listD (.lst f xs) = some (.lst .own (shares xs)) := Eq.trans rfl rfl
@[simp] theorem listD_t (xs : List D) : listD (.tup xs) = some (.lst .own (shares xs)) := Eq.trans rfl rfl
@[simp] theorem tupleD_l (f : Fl) (xs : List D) : tupleD (.lst f xs) = some (.tup (shares xs)) := Eq.trans rfl rfl
@[simp] theorem tupleD_t (xs : List D) : tupleD (.tup xs) = some (.tup (shares xs)) := Eq.trans rfl rfl
@[simp] theorem sumD_l (f : Fl) (xs : List D) : sumD (.lst f xs) = (intsD xs).map fun ns => .int ns.sum := Eq.trans rfl rfl
@[simp] theorem allD_l (f : Fl) (xs : List D) : allD (.lst f xs) = (boolsD xs).map fun bs => .bl (bs.all id) := Eq.trans rfl rfl
@[simp] theorem anyD_l (f : Fl) (xs : List D) : anyD (.lst f xs) = (boolsD xs).map fun bs => .bl (bs.any id) := Eq.trans rfl rfl
@[simp] theorem min2D_i (i j : Int) : min2D (.int i) (.int j) = some (.int (if j < i then j else i)) := Eq.trans rfl rfl
@[simp] theorem max2D_i (i j : Int) : max2D (.int i) (.int j) = some (.int (if j > i then j else i)) := Eq.trans rfl rfl
@[simp] theorem idx_l (f : Fl) (xs : List D) (i : Int) : idxD (.lst f xs) (.int i) = (L2.atI xs i).map share := Eq.trans rfl rfl
@[simp] theorem idx_t (xs : List D) (i : Int) : idxD (.tup xs) (.int i) = (L2.atI xs i).map share := Eq.trans rfl rfl
@[simp] theorem len_shares (ds : List D) : (shares ds).length = ds.length := shares_len ds
@[simp] theorem c_isN_non : cmpD .isN .non .non = some true := Eq.trans rfl rfl
@[simp] theorem c_notN_non : cmpD .notN .non .non = some false := Eq.trans rfl rfl
@[simp] theorem c_isN_lst (f : Fl) (xs : List D) : cmpD .isN (.lst f xs) .non = some false := Eq.trans rfl rfl
@[simp] theorem c_notN_lst (f : Fl) (xs : List D) : cmpD .notN (.lst f xs) .non = some true := Eq.trans rfl rfl
@[simp] theorem c_isN_tup (xs : List D) : cmpD .isN (.tup xs) .non = some false := Eq.trans rfl rfl
@[simp] theorem c_notN_tup (xs : List D) : cmpD .notN (.tup xs) .non = some true := Eq.trans rfl rfl
@[simp] theorem c_isN_int (i : Int) : cmpD .isN (.int i) .non = some false := Eq.trans rfl rfl
@[simp] theorem c_notN_int (i : Int) : cmpD .notN (.int i) .non = some true := Eq.trans rfl rfl
/-! ### data -/
def eI (xs : List Int) : List D := xs.map D.int
def eRow (f : Fl) (xs : List Int) : D := .lst f (eI xs)
def eTup (xs : List Int) : D := .tup (eI xs)
def eRows (f : Fl) (rs : List (List Int)) : D := .lst f (rs.map (eRow f))
theorem shares_ints (xs : List Int) : shares (eI xs) = eI xs := by rw [shares_eq]; unfold eI; induction xs with
  | nil => rfl
  | cons x xs ih => simp [share]
theorem share_row (f : Fl) (xs : List Int) : share (eRow f xs) = eRow f.sh xs := by unfold eRow; rw [share]; rw [shares_ints]
theorem share_eTup (xs : List Int) : share (eTup xs) = eTup xs := by unfold eTup; rw [share, shares_ints]
theorem share_rows (f : Fl) (rs : List (List Int)) : share (eRows f rs) = eRows f.sh rs := by
  unfold eRows
  rw [share, shares_eq, List.map_map]
  congr 1
  apply List.map_congr_left
  intro r _
  exact share_row f r
theorem eI_len (xs : List Int) : (eI xs).length = xs.length := by simp [eI]
theorem eI_get (xs : List Int) (i : Nat) : (eI xs)[i]? = (xs[i]?).map D.int := by simp [eI]
/-! ### == -/
theorem shaped_int (i : Int) : SeqAt.shaped (.int i) = true := by simp [SeqAt.shaped, PyData.canLay0, PyData.depth]
theorem eqD_int (a b : Int) : eqD (.int a) (.int b) = some (a == b) := by
  simp [eqD, toP, PyData.eqv, SeqAt.shaped, PyData.canLay0, PyData.depth]
/-! ### loops -/
theorem forL_inv {bind : D → Env → Option Env} {body : Env → Option Flow} (P : List D → Env → Prop) (step : ∀ d ds ρ, P (d :: ds) ρ → ∃ ρ1 ρ2, bind d ρ = some ρ1 ∧ (body ρ1 = some (.nx ρ2) ∨ body ρ1 = some (.ct ρ2)) ∧ P ds ρ2) :
    ∀ {ds : List D} {ρ : Env}, P ds ρ → ∃ ρ', forL bind body ds ρ = some (.nx ρ') ∧ P [] ρ'
  | [], ρ, h => ⟨ρ, rfl, h⟩
  | d :: ds, ρ, h => by
    obtain ⟨ρ1, ρ2, e1, e2, h2⟩ := step d ds ρ h
    obtain ⟨ρ', e3, h3⟩ := forL_inv P step h2
    refine ⟨ρ', ?_, h3⟩
    unfold forL
    rw [e1]
    rcases e2 with e2 | e2 <;> (simp only [Option.bind_some, e2]; exact e3)
theorem compL_inv {bind : D → Env → Option Env} {cond : Env → Option (Bool × Env)} {elt : Env → Option (D × Env)} {vs : List Nat} (P : List D → List D → Env → Prop)
    (step : ∀ d ds acc ρ, P (d :: ds) acc ρ → ∃ ρ1 ρ2 y ρ3, bind d ρ = some ρ1 ∧ cond ρ1 = some (true, ρ2) ∧ elt ρ2 = some (y, ρ3) ∧ acc.length < SZ ∧ P ds (acc ++ [y]) (wipeD ρ3 vs)) :
    ∀ {ds acc : List D} {ρ : Env}, P ds acc ρ → ∃ res ρ', compL bind cond elt vs ds ρ acc = some (res, ρ') ∧ P [] res ρ'
  | [], acc, ρ, h => ⟨acc, ρ, rfl, h⟩
  | d :: ds, acc, ρ, h => by
    obtain ⟨ρ1, ρ2, y, ρ3, e1, e2, e3, hz, h2⟩ := step d ds acc ρ h
    obtain ⟨res, ρ', e4, h4⟩ := compL_inv P step h2
    refine ⟨res, ρ', ?_, h4⟩
    unfold compL
    rw [e1]
    simp only [Option.bind_some, e2, e3, if_pos hz]
    exact e4
/-- a comprehension that leaves the environment: a map -/
theorem compL_map {bind : D → Env → Option Env} {cond : Env → Option (Bool × Env)} {elt : Env → Option (D × Env)} {vs : List Nat} {ρ : Env} (F : D → D) : ∀ {ds acc : List D}, (∀ d ∈ ds, ∃ ρ1 ρ2 ρ3, bind d ρ = some ρ1 ∧ cond ρ1 = some (true, ρ2) ∧ elt ρ2 = some (F d, ρ3) ∧ wipeD ρ3 vs = ρ) → acc.length + ds.length ≤ SZ →
    compL bind cond elt vs ds ρ acc = some (acc ++ ds.map F, ρ)
  | [], acc, _, _ => by simp [compL]
  | d :: ds, acc, h, hz => by
    obtain ⟨ρ1, ρ2, ρ3, e1, e2, e3, e4⟩ := h d (by simp)
    unfold compL
    rw [e1]
    have hz' : acc.length < SZ := by simp only [List.length_cons] at hz; omega
    simp only [Option.bind_some, e2, e3, if_pos hz', e4]
    rw [compL_map F (fun d hd => h d (List.mem_cons_of_mem _ hd)) (by simp only [List.length_append, List.length_cons, List.length_nil] at hz ⊢; omega)]
    simp
/-- a loop whose turns change the target's slot alone -/
theorem forL_chk {i : Nat} {body : Env → Option Flow} {ρ : Env} (hi : i < ρ.length) : ∀ {items : List D} {x0 : Option D}, (∀ d ∈ items, ∃ x, body (ρ.set i (some d)) = some (.nx (ρ.set i x))) → ∃ x, forL (bindT (.name i)) body items (ρ.set i x0) = some (.nx (ρ.set i x))
  | [], x0, _ => ⟨x0, rfl⟩
  | d :: ds, x0, h => by
    obtain ⟨x, e⟩ := h d (by simp)
    obtain ⟨y, e2⟩ := forL_chk hi (items := ds) (x0 := x) fun d hd => h d (List.mem_cons_of_mem _ hd)
    refine ⟨y, ?_⟩
    have e0 : bindT (.name i) d (ρ.set i x0) = some (ρ.set i (some d)) := by
      show putS _ i d = _
      unfold putS
      rw [if_pos (by rw [List.length_set]; exact hi), List.set_set]
    unfold forL
    rw [e0]
    simp only [Option.bind_some, e]
    exact e2
theorem forL_chk2 {i j : Nat} {body : Env → Option Flow} {ρ : Env} (hi : i < ρ.length) (hj : j < ρ.length) (hij : i ≠ j) : ∀ {items : List D} {x0 y0 : Option D}, (∀ d ∈ items, ∃ a b, d = .tup [a, b] ∧ ∃ x y, body ((ρ.set i (some a)).set j (some b)) = some (.nx ((ρ.set i x).set j y))) →
    ∃ x y, forL (bindT (.names [i, j])) body items ((ρ.set i x0).set j y0) = some (.nx ((ρ.set i x).set j y))
  | [], x0, y0, _ => ⟨x0, y0, rfl⟩
  | d :: ds, x0, y0, h => by
    obtain ⟨a, b, rfl, x, y, e⟩ := h d (by simp)
    obtain ⟨x', y', e2⟩ := forL_chk2 hi hj hij (items := ds) (x0 := x) (y0 := y) fun d hd => h d (List.mem_cons_of_mem _ hd)
    refine ⟨x', y', ?_⟩
    have e0 : bindT (.names [i, j]) (.tup [a, b]) ((ρ.set i x0).set j y0) = some ((ρ.set i (some a)).set j (some b)) := by
      simp only [bindT, List.length_cons, List.length_nil, if_pos, putAll, putS, List.length_set, if_pos hi, if_pos hj, Option.bind_some]
      rw [List.set_comm _ _ hij.symm, List.set_set, List.set_set]
    unfold forL
    rw [e0]
    simp only [Option.bind_some, e]
    exact e2
theorem mem_eI {d : D} {xs : List Int} (h : d ∈ eI xs) : ∃ z ∈ xs, d = .int z := by
  obtain ⟨z, hz, rfl⟩ := List.mem_map.mp h
  exact ⟨z, hz, rfl⟩
theorem atI_nat {α : Type} (xs : List α) (i : Nat) : L2.atI xs (i : Int) = xs[i]? := by
  unfold L2.atI L2.ixN
  rw [if_pos (by omega)]
  by_cases h : i < xs.length
  · rw [if_pos (by omega)]; simp
  · rw [if_neg (by omega)]; simp; omega
@[simp] theorem atI_0 {α : Type} (x : α) (xs : List α) : L2.atI (x :: xs) 0 = some x := atI_nat (x :: xs) 0
@[simp] theorem atI_1 {α : Type} (x y : α) (xs : List α) : L2.atI (x :: y :: xs) 1 = some y := atI_nat (x :: y :: xs) 1
@[simp] theorem atI_2 {α : Type} (x y z : α) (xs : List α) : L2.atI (x :: y :: z :: xs) 2 = some z := atI_nat (x :: y :: z :: xs) 2
@[simp] theorem atI_3 {α : Type} (x y z w : α) (xs : List α) : L2.atI (x :: y :: z :: w :: xs) 3 = some w := atI_nat (x :: y :: z :: w :: xs) 3
theorem forL_inv' {bind : D → Env → Option Env} {body : Env → Option Flow} (P : List D → Env → Prop) (step : ∀ d ds ρ, P (d :: ds) ρ → ∃ ρ2, ((bind d ρ).bind body = some (.nx ρ2) ∨ (bind d ρ).bind body = some (.ct ρ2)) ∧ P ds ρ2) :
    ∀ {ds : List D} {ρ : Env}, P ds ρ → ∃ ρ', forL bind body ds ρ = some (.nx ρ') ∧ P [] ρ' := fun {ds ρ} h => forL_inv P (fun d ds ρ h => by
  obtain ⟨ρ2, e, h2⟩ := step d ds ρ h
  rcases e with e | e
  · obtain ⟨ρ1, e1, e2⟩ := bnd e
    exact ⟨ρ1, ρ2, e1, .inl e2, h2⟩
  · obtain ⟨ρ1, e1, e2⟩ := bnd e
    exact ⟨ρ1, ρ2, e1, .inr e2, h2⟩) h
/-- a comprehension over coded items, the environment kept: a map -/
theorem compL_mapT {α : Type} {bind : D → Env → Option Env} {cond : Env → Option (Bool × Env)} {elt : Env → Option (D × Env)} {vs : List Nat} {ρ : Env} (enc res : α → D) : ∀ (l : List α) {acc : List D},
    (∀ a ∈ l, ∃ ρ3, ((bind (enc a) ρ).bind fun ρ1 => (cond ρ1).bind fun p => if p.1 = true then elt p.2 else none) = some (res a, ρ3) ∧ wipeD ρ3 vs = ρ) → acc.length + l.length ≤ SZ → compL bind cond elt vs (l.map enc) ρ acc = some (acc ++ l.map res, ρ)
  | [], acc, _, _ => by simp [compL]
  | a :: l, acc, h, hz => by
    obtain ⟨ρ3, e, e4⟩ := h a (by simp)
    obtain ⟨ρ1, e1, e⟩ := bnd e
    obtain ⟨⟨b, ρ2⟩, e2, e⟩ := bnd e
    cases b with
    | false => simp at e
    | true =>
      rw [if_pos rfl] at e
      simp only [List.map_cons]
      unfold compL
      rw [e1]
      have hz' : acc.length < SZ := by simp only [List.length_cons] at hz; omega
      simp only [Option.bind_some, e2, if_pos hz']
      rw [show elt ρ2 = some (res a, ρ3) from e]
      simp only [Option.bind_some, if_pos hz', e4]
      rw [compL_mapT enc res l (fun b hb => h b (List.mem_cons_of_mem _ hb)) (by simp only [List.length_append, List.length_cons, List.length_nil] at hz ⊢; omega)]
      simp
theorem zipL_map {α β : Type} (e : α → D) (g : β → D) : ∀ (xs : List α) (ys : List β), zipL (xs.map e) (ys.map g) = (xs.zip ys).map fun p => .tup [e p.1, g p.2]
  | [], _ => by simp [zipL]
  | _ :: _, [] => by simp [zipL]
  | x :: xs, y :: ys => by simp [zipL, zipL_map e g xs ys]
theorem intsD_map (xs : List Int) : intsD (xs.map D.int) = some xs := by
  induction xs with
  | nil => rfl
  | cons x xs ih => simp [intsD, ih]
theorem boolsD_map (xs : List Bool) : boolsD (xs.map D.bl) = some xs := by
  induction xs with
  | nil => rfl
  | cons x xs ih => simp [boolsD, ih]
@[simp] theorem b_mul (a b : Int) : binD .mul (.int a) (.int b) = if mulOk a b = true then some (.int (a * b)) else none := by simp only [binD]; exact ite_cl
@[simp] theorem SZ_val : SZ = 16777216 := Eq.trans rfl rfl
@[simp] theorem shs_eI (xs : List Int) : shares (eI xs) = eI xs := shares_ints xs
@[simp] theorem len_eI (xs : List Int) : (eI xs).length = xs.length := eI_len xs
end FL

namespace FL
/-- a comprehension over coded items, the environment under a rule: a map -/
theorem compL_mapP {α : Type} {bind : D → Env → Option Env} {cond : Env → Option (Bool × Env)} {elt : Env → Option (D × Env)} {vs : List Nat} (P : Env → Prop) (enc res : α → D) : ∀ (l : List α) {acc : List D} {ρ : Env},
    (∀ a ∈ l, ∀ ρ, P ρ → ∃ ρ3, ((bind (enc a) ρ).bind fun ρ1 => (cond ρ1).bind fun p => if p.1 = true then elt p.2 else none) = some (res a, ρ3) ∧ P (wipeD ρ3 vs)) → P ρ → acc.length + l.length ≤ SZ → ∃ ρ', compL bind cond elt vs (l.map enc) ρ acc = some (acc ++ l.map res, ρ') ∧ P ρ'
  | [], acc, ρ, _, hp, _ => ⟨ρ, by simp [compL], hp⟩
  | a :: l, acc, ρ, h, hp, hz => by
    obtain ⟨ρ3, e, e4⟩ := h a (by simp) ρ hp
    obtain ⟨ρ1, e1, e⟩ := bnd e
    obtain ⟨⟨b, ρ2⟩, e2, e⟩ := bnd e
    cases b with
    | false => simp at e
    | true =>
      rw [if_pos rfl] at e
      simp only [List.map_cons]
      unfold compL
      rw [e1]
      have hz' : acc.length < SZ := by simp only [List.length_cons] at hz; omega
      simp only [Option.bind_some, e2, if_pos hz']
      rw [show elt ρ2 = some (res a, ρ3) from e]
      simp only [Option.bind_some, if_pos hz']
      obtain ⟨ρ', e5, p5⟩ := compL_mapP P enc res l (acc := acc ++ [res a]) (fun b hb => h b (List.mem_cons_of_mem _ hb)) e4 (by simp only [List.length_append, List.length_cons, List.length_nil] at hz ⊢; omega)
      exact ⟨ρ', by rw [e5]; simp, p5⟩
/-- place by place -/
def Pw {α β : Type} (R : α → β → Prop) (l : List α) (zs : List β) : Prop := zs.length = l.length ∧ ∀ (j : Nat) (a : α) (z : β), l[j]? = some a → zs[j]? = some z → R a z
theorem Pw.cons {α β : Type} {R : α → β → Prop} {a : α} {z : β} {l : List α} {zs : List β} (h1 : R a z) (h : Pw R l zs) : Pw R (a :: l) (z :: zs) := by
  refine ⟨by simp [h.1], fun j x y hx hy => ?_⟩
  cases j with
  | zero => simp at hx hy; rw [← hx, ← hy]; exact h1
  | succ j => simp at hx hy; exact h.2 j x y hx hy
theorem Pw.all {α β : Type} {R : α → β → Prop} {l : List α} {zs : List β} {Q : β → Prop} (h : Pw R l zs) (hq : ∀ a z, R a z → Q z) : ∀ z ∈ zs, Q z := by
  intro z hz
  obtain ⟨j, hj⟩ := List.getElem?_of_mem hz
  have hl : j < l.length := by rw [← h.1]; exact (List.getElem?_eq_some_iff.mp hj).1
  exact hq _ z (h.2 j _ z (List.getElem?_eq_getElem hl) hj)
/-- .. with results not known ahead -/
theorem compL_ex {α β : Type} {bind : D → Env → Option Env} {cond : Env → Option (Bool × Env)} {elt : Env → Option (D × Env)} {vs : List Nat} (P : Env → Prop) (R : α → β → Prop) (enc : α → D) (res : β → D) : ∀ (l : List α) {acc : List D} {ρ : Env},
    (∀ a ∈ l, ∀ ρ, P ρ → ∃ z ρ3, ((bind (enc a) ρ).bind fun ρ1 => (cond ρ1).bind fun p => if p.1 = true then elt p.2 else none) = some (res z, ρ3) ∧ R a z ∧ P (wipeD ρ3 vs)) → P ρ → acc.length + l.length ≤ SZ → ∃ zs ρ', compL bind cond elt vs (l.map enc) ρ acc = some (acc ++ zs.map res, ρ') ∧ Pw R l zs ∧ P ρ'
  | [], acc, ρ, _, hp, _ => ⟨[], ρ, by simp [compL], ⟨rfl, by simp⟩, hp⟩
  | a :: l, acc, ρ, h, hp, hz => by
    obtain ⟨z, ρ3, e, hr, e4⟩ := h a (by simp) ρ hp
    obtain ⟨ρ1, e1, e⟩ := bnd e
    obtain ⟨⟨b, ρ2⟩, e2, e⟩ := bnd e
    cases b with
    | false => simp at e
    | true =>
      rw [if_pos rfl] at e
      simp only [List.map_cons]
      unfold compL
      rw [e1]
      have hz' : acc.length < SZ := by simp only [List.length_cons] at hz; omega
      simp only [Option.bind_some, e2, if_pos hz']
      rw [show elt ρ2 = some (res z, ρ3) from e]
      simp only [Option.bind_some, if_pos hz']
      obtain ⟨zs, ρ', e5, r5, p5⟩ := compL_ex P R enc res l (acc := acc ++ [res z]) (fun b hb => h b (List.mem_cons_of_mem _ hb)) e4 (by simp only [List.length_append, List.length_cons, List.length_nil] at hz ⊢; omega)
      exact ⟨z :: zs, ρ', by rw [e5]; simp, Pw.cons hr r5, p5⟩
theorem rngO_nat (i : Int) (n : Nat) (h : i = n) (hn : n ≤ 1000000) : rngO (.int i) = some (rngL 0 n) := by
  subst h
  have h1 : -(2 ^ 62) ≤ (n : Int) := by omega
  have h2 : (n : Int) < 2 ^ 62 := by omega
  unfold rngO
  simp only
  rw [if_pos ⟨h1, h2⟩, Int.toNat_natCast]
theorem rngL_0 (n : Nat) : rngL 0 n = (List.range n).map fun (k : Nat) => D.int (k : Int) := by
  unfold rngL; congr 1; funext k; simp
@[simp] theorem b_mod (a b : Int) : binD .mod (.int a) (.int b) = if 0 < b then some (.int (a % b)) else none := by simp only [binD]; exact ite_cl
@[simp] theorem b_fdiv (a b : Int) : binD .fdiv (.int a) (.int b) = if 0 < b ∧ (b.natAbs.log2 < 9000 ∨ a.natAbs.log2 < 13530) then some (.int (a / b)) else if b < 0 ∧ (b.natAbs.log2 < 9000 ∨ a.natAbs.log2 < 13530) then some (.int (a.fdiv b)) else none := by simp only [binD]; rw [ite_cl, ite_cl]
@[simp] theorem b_pow (a b : Int) : binD .pow (.int a) (.int b) = if 0 ≤ b ∧ b ≤ 1000000 ∧ (a.natAbs < 2 ^ 64 ∨ (a.natAbs.log2 < 1000 ∧ b ≤ 1000)) then some (.int (a ^ b.toNat)) else none := by simp only [binD]; exact ite_cl
@[simp] theorem b_addL (f g : Fl) (xs ys : List D) : binD .add (.lst f xs) (.lst g ys) = if f ≠ .frz ∧ g ≠ .frz ∧ xs.length + ys.length ≤ SZ then some (.lst .own (shares xs ++ shares ys)) else none := Eq.trans rfl rfl
@[simp] theorem b_mulT (xs : List D) (k : Int) : binD .mul (.tup xs) (.int k) = if xs ≠ [] ∧ 0 ≤ k ∧ k ≤ 1000 ∧ xs.length ≤ 1000 then some (.tup (List.replicate k.toNat (shares xs)).flatten) else none := by simp only [binD]; exact ite_cl
@[simp] theorem b_addT (xs ys : List D) : binD .add (.tup xs) (.tup ys) = if xs.length + ys.length ≤ SZ then some (.tup (shares xs ++ shares ys)) else none := Eq.trans rfl rfl
theorem log2_small {b : Int} (h : b.natAbs < 2 ^ 64) : b.natAbs.log2 < 9000 := by
  by_cases h0 : b.natAbs = 0
  · rw [h0]; decide
  · have := (Nat.log2_lt h0).mpr h; omega
@[simp] theorem idv_l (f : Fl) (xs : List D) (i : Int) : idvD (.lst f xs) (.int i) = (L2.ixN xs.length i).bind fun j => (xs[j]?).map fun d => (share d, .lst f (xs.set j (share d))) := Eq.trans rfl rfl
@[simp] theorem setI_l (xs : List D) (k : Int) (d : D) : setID (.lst .own xs) (.int k) d = (L2.ixN xs.length k).map fun j => .lst .own (xs.set j d) := Eq.trans rfl rfl
theorem ixN_ok (n j : Nat) (h : j < n) : L2.ixN n (j : Int) = some j := by
  unfold L2.ixN; rw [if_pos (by omega), if_pos (by omega)]; simp
@[simp] theorem ixN40 : L2.ixN 4 0 = some 0 := Eq.trans rfl rfl
@[simp] theorem ixN41 : L2.ixN 4 1 = some 1 := Eq.trans rfl rfl
@[simp] theorem ixN42 : L2.ixN 4 2 = some 2 := Eq.trans rfl rfl
@[simp] theorem ixN43 : L2.ixN 4 3 = some 3 := Eq.trans rfl rfl
@[simp] theorem isLst_l (f : Fl) (xs : List D) : isLst (.lst f xs) = true := Eq.trans rfl rfl
@[simp] theorem app_l (xs : List D) (d : D) : appD (.lst .own xs) d = if xs.length < SZ then some (.lst .own (xs ++ [d])) else none := Eq.trans rfl rfl
/-- a loop over coded items, the environment as a picture of a state -/
theorem forL_st {α σ : Type} {bind : D → Env → Option Env} {body : Env → Option Flow} (enc : α → D) (env : σ → Env) (I : List α → σ → Prop)
    (step : ∀ a l s, I (a :: l) s → ∃ s', ((bind (enc a) (env s)).bind body = some (.nx (env s')) ∨ (bind (enc a) (env s)).bind body = some (.ct (env s'))) ∧ I l s') :
    ∀ (l : List α) (s : σ), I l s → ∃ s', forL bind body (l.map enc) (env s) = some (.nx (env s')) ∧ I [] s' := fun l s h => by
  obtain ⟨ρ', e, ⟨l', s', h1, h2, h3⟩⟩ := forL_inv' (bind := bind) (body := body) (fun ds ρ => ∃ l s, ds = l.map enc ∧ ρ = env s ∧ I l s) (by
    rintro d ds ρ ⟨l, s, h1, rfl, h3⟩
    cases l with
    | nil => cases h1
    | cons a l =>
      simp only [List.map_cons, List.cons.injEq] at h1
      obtain ⟨rfl, rfl⟩ := h1
      obtain ⟨s', e, h4⟩ := step a l s h3
      exact ⟨env s', e, l, s', rfl, rfl, h4⟩) ⟨l, s, rfl, rfl, h⟩
  cases l' with
  | cons a l' => cases h1
  | nil => exact ⟨s', by rw [e, h2], h3⟩
theorem eI_set (xs : List Int) (j : Nat) (v : Int) : (eI xs).set j (.int v) = eI (xs.set j v) := by
  unfold eI; rw [List.map_set]
end FL

/-! F22: == over coded data. -/
namespace FL
open PySem
/-- a coding without objects, at most n deep -/
def GoodE {α : Type} (ea : α → D) (n : Nat) : Prop := ∀ a, ∃ p, toP (ea a) = some p ∧ p.canLay0 = true ∧ p.depth ≤ n
/-- how two codings compare -/
structure EqE {α β : Type} (ea : α → D) (eb : β → D) (n : Nat) (r : α → β → Bool) : Prop where
  ga : GoodE ea n
  gb : GoodE eb n
  eq : ∀ a b p q, toP (ea a) = some p → toP (eb b) = some q → PyData.eqv p q = r a b
theorem EqE.eqD {α β : Type} {ea : α → D} {eb : β → D} {n : Nat} {r : α → β → Bool} (h : EqE ea eb n r) (hn : n ≤ 64) (a : α) (b : β) : eqD (ea a) (eb b) = some (r a b) := by
  obtain ⟨p, e1, l1, d1⟩ := h.ga a
  obtain ⟨q, e2, l2, d2⟩ := h.gb b
  unfold FL.eqD
  rw [e1, e2]
  have s1 : SeqAt.shaped p = true := by unfold SeqAt.shaped; rw [l1]; simp; omega
  have s2 : SeqAt.shaped q = true := by unfold SeqAt.shaped; rw [l2]; simp; omega
  simp [s1, s2, h.eq a b p q e1 e2]
theorem GoodE.mono {α : Type} {ea : α → D} {n m : Nat} (h : GoodE ea n) (hn : n ≤ m) : GoodE ea m := fun a => by
  obtain ⟨p, e1, l1, d1⟩ := h a
  exact ⟨p, e1, l1, by omega⟩
theorem EqE.mono {α β : Type} {ea : α → D} {eb : β → D} {n m : Nat} {r : α → β → Bool} (h : EqE ea eb n r) (hn : n ≤ m) : EqE ea eb m r := ⟨h.ga.mono hn, h.gb.mono hn, h.eq⟩
theorem goodE_int : GoodE D.int 0 := fun a => ⟨.int a, rfl, rfl, by simp [PyData.depth]⟩
theorem goodE_bl : GoodE D.bl 0 := fun a => ⟨.bool a, rfl, rfl, by simp [PyData.depth]⟩
theorem eqE_int : EqE D.int D.int 0 (fun a b => decide (a = b)) := ⟨goodE_int, goodE_int, fun a b p q e1 e2 => by cases e1; cases e2; simp only [PyData.eqv]; rfl⟩
theorem eqE_bl : EqE D.bl D.bl 0 (fun a b => decide (a = b)) := ⟨goodE_bl, goodE_bl, fun a b p q e1 e2 => by cases e1; cases e2; cases a <;> cases b <;> rfl⟩
/-- item by item -/
def allE {α β : Type} (r : α → β → Bool) : List α → List β → Bool
  | [], [] => true
  | a :: as, b :: bs => r a b && allE r as bs
  | _, _ => false
theorem allE_eq {α : Type} [DecidableEq α] : ∀ (xs ys : List α), allE (fun a b => decide (a = b)) xs ys = decide (xs = ys)
  | [], [] => by simp [allE]
  | [], _ :: _ => by simp [allE]
  | _ :: _, [] => by simp [allE]
  | x :: xs, y :: ys => by simp [allE, allE_eq xs ys]
theorem goods {α : Type} {ea : α → D} {n : Nat} (h : GoodE ea n) : ∀ xs : List α, ∃ ps, toP.toPs (xs.map ea) = some ps ∧ PyData.canLayAll0 ps = true ∧ PyData.depthAll ps ≤ n
  | [] => ⟨[], rfl, rfl, by simp [PyData.depthAll]⟩
  | x :: xs => by
    obtain ⟨p, e1, l1, d1⟩ := h x
    obtain ⟨ps, e2, l2, d2⟩ := goods h xs
    exact ⟨p :: ps, by simp [toP.toPs, e1, e2], by simp [PyData.canLayAll0, l1, l2], by simp only [PyData.depthAll]; omega⟩
theorem eqs {α β : Type} {ea : α → D} {eb : β → D} {n : Nat} {r : α → β → Bool} (h : EqE ea eb n r) : ∀ (xs : List α) (ys : List β) (ps qs : List PyData), toP.toPs (xs.map ea) = some ps → toP.toPs (ys.map eb) = some qs → PyData.eqvAll ps qs = allE r xs ys
  | [], [], ps, qs, e1, e2 => by cases e1; cases e2; simp [PyData.eqvAll, allE]
  | [], y :: ys, ps, qs, e1, e2 => by
    cases e1
    simp only [List.map_cons, toP.toPs] at e2
    obtain ⟨q, _, e2⟩ := Option.bind_eq_some_iff.mp e2
    obtain ⟨qs', _, rfl⟩ := Option.map_eq_some_iff.mp e2
    simp [PyData.eqvAll, allE]
  | x :: xs, [], ps, qs, e1, e2 => by
    cases e2
    simp only [List.map_cons, toP.toPs] at e1
    obtain ⟨q, _, e1⟩ := Option.bind_eq_some_iff.mp e1
    obtain ⟨qs', _, rfl⟩ := Option.map_eq_some_iff.mp e1
    simp [PyData.eqvAll, allE]
  | x :: xs, y :: ys, ps, qs, e1, e2 => by
    simp only [List.map_cons, toP.toPs] at e1 e2
    obtain ⟨p, h1, e1⟩ := Option.bind_eq_some_iff.mp e1
    obtain ⟨ps', h2, rfl⟩ := Option.map_eq_some_iff.mp e1
    obtain ⟨q, g1, e2⟩ := Option.bind_eq_some_iff.mp e2
    obtain ⟨qs', g2, rfl⟩ := Option.map_eq_some_iff.mp e2
    simp only [PyData.eqvAll, allE, h.eq x y p q h1 g1, eqs h xs ys ps' qs' h2 g2]
theorem goodE_lst {α : Type} {ea : α → D} {n : Nat} (f : Fl) (h : GoodE ea n) : GoodE (fun xs : List α => D.lst f (xs.map ea)) (n + 1) := fun xs => by
  obtain ⟨ps, e, l, d⟩ := goods h xs
  exact ⟨.list ps, by simp [toP, e], by simp [PyData.canLay0, l], by simp only [PyData.depth]; omega⟩
theorem goodE_tup {α : Type} {ea : α → D} {n : Nat} (h : GoodE ea n) : GoodE (fun xs : List α => D.tup (xs.map ea)) (n + 1) := fun xs => by
  obtain ⟨ps, e, l, d⟩ := goods h xs
  exact ⟨.tuple ps, by simp [toP, e], by simp [PyData.canLay0, l], by simp only [PyData.depth]; omega⟩
theorem eqE_lst {α β : Type} {ea : α → D} {eb : β → D} {n : Nat} {r : α → β → Bool} (f g : Fl) (h : EqE ea eb n r) : EqE (fun xs : List α => D.lst f (xs.map ea)) (fun xs : List β => D.lst g (xs.map eb)) (n + 1) (allE r) := by
  refine ⟨goodE_lst f h.ga, goodE_lst g h.gb, fun xs ys p q e1 e2 => ?_⟩
  simp only [toP] at e1 e2
  obtain ⟨ps, h1, rfl⟩ := Option.map_eq_some_iff.mp e1
  obtain ⟨qs, h2, rfl⟩ := Option.map_eq_some_iff.mp e2
  simp only [PyData.eqv, eqs h xs ys ps qs h1 h2]
theorem eqE_tup {α β : Type} {ea : α → D} {eb : β → D} {n : Nat} {r : α → β → Bool} (h : EqE ea eb n r) : EqE (fun xs : List α => D.tup (xs.map ea)) (fun xs : List β => D.tup (xs.map eb)) (n + 1) (allE r) := by
  refine ⟨goodE_tup h.ga, goodE_tup h.gb, fun xs ys p q e1 e2 => ?_⟩
  simp only [toP] at e1 e2
  obtain ⟨ps, h1, rfl⟩ := Option.map_eq_some_iff.mp e1
  obtain ⟨qs, h2, rfl⟩ := Option.map_eq_some_iff.mp e2
  simp only [PyData.eqv, eqs h xs ys ps qs h1 h2]
theorem eqE_pair {α β α' β' : Type} {ea : α → D} {eb : β → D} {ea' : α' → D} {eb' : β' → D} {n : Nat} {r : α → β → Bool} {r' : α' → β' → Bool} (h : EqE ea eb n r) (h' : EqE ea' eb' n r') :
    EqE (fun p : α × α' => D.tup [ea p.1, ea' p.2]) (fun p : β × β' => D.tup [eb p.1, eb' p.2]) (n + 1) (fun p q => r p.1 q.1 && r' p.2 q.2) := by
  refine ⟨fun p => ?_, fun p => ?_, fun x y p q e1 e2 => ?_⟩
  · obtain ⟨p1, e1, l1, d1⟩ := h.ga p.1
    obtain ⟨p2, e2, l2, d2⟩ := h'.ga p.2
    exact ⟨.tuple [p1, p2], by simp [toP, toP.toPs, e1, e2], by simp [PyData.canLay0, PyData.canLayAll0, l1, l2], by simp only [PyData.depth, PyData.depthAll]; omega⟩
  · obtain ⟨p1, e1, l1, d1⟩ := h.gb p.1
    obtain ⟨p2, e2, l2, d2⟩ := h'.gb p.2
    exact ⟨.tuple [p1, p2], by simp [toP, toP.toPs, e1, e2], by simp [PyData.canLay0, PyData.canLayAll0, l1, l2], by simp only [PyData.depth, PyData.depthAll]; omega⟩
  · obtain ⟨p1, f1, _, _⟩ := h.ga x.1
    obtain ⟨p2, f2, _, _⟩ := h'.ga x.2
    obtain ⟨q1, g1, _, _⟩ := h.gb y.1
    obtain ⟨q2, g2, _, _⟩ := h'.gb y.2
    simp only [toP, toP.toPs, f1, f2, g1, g2, Option.bind_some, Option.map_some, Option.some.injEq] at e1 e2
    subst e1 e2
    simp only [PyData.eqv, PyData.eqvAll, h.eq _ _ _ _ f1 g1, h'.eq _ _ _ _ f2 g2, Bool.and_true]
theorem EqE.cg {α β : Type} {ea ea' : α → D} {eb eb' : β → D} {n : Nat} {r r' : α → β → Bool} (h : EqE ea eb n r) (h1 : ∀ a, ea' a = ea a) (h2 : ∀ a, eb' a = eb a) (h3 : ∀ a b, r' a b = r a b) : EqE ea' eb' n r' := by
  have e1 : ea' = ea := funext h1
  have e2 : eb' = eb := funext h2
  have e3 : r' = r := funext fun a => funext fun b => h3 a b
  rw [e1, e2, e3]; exact h
theorem eqE_ints (f g : Fl) : EqE (eRow f) (eRow g) 1 (fun a b => decide (a = b)) := (eqE_lst f g eqE_int).cg (fun _ => rfl) (fun _ => rfl) fun a b => (allE_eq a b).symm
theorem eqE_tupI : EqE (fun xs => D.tup (eI xs)) (fun xs => D.tup (eI xs)) 1 (fun a b => decide (a = b)) := (eqE_tup eqE_int).cg (fun _ => rfl) (fun _ => rfl) fun a b => (allE_eq a b).symm
theorem eqE_lstQ {α : Type} [DecidableEq α] {ea eb : α → D} {n : Nat} (f g : Fl) (h : EqE ea eb n (fun a b => decide (a = b))) : EqE (fun xs : List α => D.lst f (xs.map ea)) (fun xs : List α => D.lst g (xs.map eb)) (n + 1) (fun a b => decide (a = b)) :=
  (eqE_lst f g h).cg (fun _ => rfl) (fun _ => rfl) fun a b => (allE_eq a b).symm
theorem eqE_pairQ {α β : Type} [DecidableEq α] [DecidableEq β] {ea eb : α → D} {ea' eb' : β → D} {n : Nat} (h : EqE ea eb n (fun a b => decide (a = b))) (h' : EqE ea' eb' n (fun a b => decide (a = b))) :
    EqE (fun p : α × β => D.tup [ea p.1, ea' p.2]) (fun p : α × β => D.tup [eb p.1, eb' p.2]) (n + 1) (fun p q => decide (p = q)) :=
  (eqE_pair h h').cg (fun _ => rfl) (fun _ => rfl) fun a b => by
    obtain ⟨a1, a2⟩ := a
    obtain ⟨b1, b2⟩ := b
    by_cases h1 : a1 = b1 <;> by_cases h2 : a2 = b2 <;> simp [h1, h2]
/-! ### a body in two parts -/
def takeS : Nat → Ss → Ss
  | 0, _ => .nil
  | _ + 1, .nil => .nil
  | n + 1, .cons s ss => .cons s (takeS n ss)
  | n + 1, .ali i p b r => .ali i p b (takeS n r)
  | n + 1, .ali2 t i p b r => .ali2 t i p b (takeS n r)
  | _ + 1, .alt a b => .alt a b
def dropS : Nat → Ss → Ss
  | 0, ss => ss
  | _ + 1, .nil => .nil
  | n + 1, .cons _ ss => dropS n ss
  | n + 1, .ali _ _ _ r => dropS n r
  | n + 1, .ali2 _ _ _ _ r => dropS n r
  | _ + 1, .alt _ _ => .nil
theorem thenS_thenS (x : Option Flow) (k k' : Env → Option Flow) : thenS (thenS x k) k' = thenS x fun ρ => thenS (k ρ) k' := by
  cases x with
  | none => rfl
  | some fl => cases fl <;> rfl
theorem thenS_none (k : Env → Option Flow) : thenS none k = none := rfl
theorem ss_split (Γ : Ctx) : ∀ (n : Nat) (b : Ss) (ρ : Env), exSs Γ b ρ = thenS (exSs Γ (takeS n b) ρ) (exSs Γ (dropS n b))
  | 0, b, ρ => by simp only [takeS, dropS, ss_nil, thenS_nx]
  | n + 1, .nil, ρ => by simp only [takeS, dropS, ss_nil, thenS_nx]
  | n + 1, .cons s ss, ρ => by
    simp only [takeS, dropS, ss_cons, thenS_thenS]
    congr 1
    funext ρ1
    exact ss_split Γ n ss ρ1
  | n + 1, .alt a b, ρ => by
    simp only [takeS, dropS]
    cases exSs Γ (.alt a b) ρ with
    | none => rfl
    | some fl => cases fl <;> simp [thenS, ss_nil]
  | n + 1, .ali2 t i p b r, ρ => by
    simp only [takeS, dropS, ss_ali2]
    cases getP ρ p with
    | none => rfl
    | some y =>
      simp only [Option.bind_some]
      cases pair2 y with
      | none => rfl
      | some ab =>
        simp only [Option.bind_some]
        cases ixsD ρ (.sub p (.c 1)) with
        | none => rfl
        | some ns =>
          simp only [Option.bind_some, thenS_thenS]
          congr 1
          funext ρ1
          exact ss_split Γ n r ρ1
  | n + 1, .ali i p b r, ρ => by
    simp only [takeS, dropS, ss_ali]
    cases getP ρ p with
    | none => rfl
    | some y =>
      cases ixsD ρ p with
      | none => rfl
      | some ns =>
        simp only [Option.bind_some, thenS_thenS]
        congr 1
        funext ρ1
        exact ss_split Γ n r ρ1
theorem ss_two {Γ : Ctx} (n : Nat) {b : Ss} {ρ ρ1 : Env} {fl : Flow} (h1 : exSs Γ (takeS n b) ρ = some (.nx ρ1)) (h2 : exSs Γ (dropS n b) ρ1 = some fl) : exSs Γ b ρ = some fl := by
  rw [ss_split Γ n b ρ, h1, thenS_nx, h2]
/-! ### loops by the turn's number -/
theorem forL_ix {α σ : Type} {bind : D → Env → Option Env} {body : Env → Option Flow} (enc : α → D) (env : σ → Env) (L : List α) (I : Nat → σ → Prop)
    (step : ∀ j a s, L[j]? = some a → I j s → ∃ s', ((bind (enc a) (env s)).bind body = some (.nx (env s')) ∨ (bind (enc a) (env s)).bind body = some (.ct (env s'))) ∧ I (j + 1) s') (s : σ) (h : I 0 s) :
    ∃ s', forL bind body (L.map enc) (env s) = some (.nx (env s')) ∧ I L.length s' := by
  obtain ⟨s', e, j, h1, h2, h3⟩ := forL_st (bind := bind) (body := body) enc env (fun l s => ∃ j, l = L.drop j ∧ j ≤ L.length ∧ I j s) (by
    rintro a l s ⟨j, h1, h2, h3⟩
    have hj : j < L.length := by
      by_cases q : j < L.length
      · exact q
      · rw [List.drop_eq_nil_of_le (by omega)] at h1; cases h1
    have e2 : L[j]? = some a := by
      have : (L.drop j)[0]? = some a := by rw [← h1]; rfl
      simpa using this
    obtain ⟨s', e, h4⟩ := step j a s e2 h3
    refine ⟨s', e, j + 1, ?_, hj, h4⟩
    have : (L.drop j).drop 1 = l := by rw [← h1]; rfl
    rw [← this, List.drop_drop]) L s ⟨0, rfl, Nat.zero_le _, h⟩
  have : j = L.length := by
    have : (L.drop j).length = 0 := by rw [← h1]; rfl
    rw [List.length_drop] at this; omega
  subst this
  exact ⟨s', e, h3⟩
theorem forL_rng {σ : Type} {bind : D → Env → Option Env} {body : Env → Option Flow} (env : σ → Env) (n : Nat) (I : Nat → σ → Prop)
    (step : ∀ j s, j < n → I j s → ∃ s', ((bind (.int (j : Int)) (env s)).bind body = some (.nx (env s')) ∨ (bind (.int (j : Int)) (env s)).bind body = some (.ct (env s'))) ∧ I (j + 1) s') (s : σ) (h : I 0 s) :
    ∃ s', forL bind body (rngL 0 n) (env s) = some (.nx (env s')) ∧ I n s' := by
  rw [rngL_0]
  obtain ⟨s', e, h'⟩ := forL_ix (bind := bind) (body := body) (fun (k : Nat) => D.int (k : Int)) env (List.range n) I (fun j a s ha hI => by
    obtain ⟨hj, ea⟩ := List.getElem?_eq_some_iff.mp ha
    simp only [List.length_range, List.getElem_range] at hj ea
    subst ea
    exact step j s hj hI) s h
  rw [List.length_range] at h'
  exact ⟨s', e, h'⟩
/-! ### slices -/
theorem slc_to (f : Fl) (xs : List D) (k : Nat) : slcD (.lst f xs) none (some (k : Int)) = some (.lst .own ((shares xs).take k)) := by
  simp only [slcD, cutD, HT.sIx_none, HT.sIx_nat, List.drop_zero, Nat.sub_zero]
  congr 2
  by_cases h : k ≤ (shares xs).length
  · rw [Nat.min_eq_left h]
  · rw [Nat.min_eq_right (by omega), List.take_of_length_le (Nat.le_refl _), List.take_of_length_le (by omega)]
theorem slc_from (f : Fl) (xs : List D) (k : Nat) : slcD (.lst f xs) (some (k : Int)) none = some (.lst .own ((shares xs).drop k)) := by
  simp only [slcD, cutD, HT.sIx_none, HT.sIx_nat]
  congr 2
  by_cases h : k ≤ (shares xs).length
  · rw [Nat.min_eq_left h, List.take_of_length_le (by rw [List.length_drop]; omega)]
  · rw [Nat.min_eq_right (by omega), List.drop_eq_nil_of_le (Nat.le_refl _), List.drop_eq_nil_of_le (by omega)]; simp
theorem b_mulL (f : Fl) (xs : List D) (k : Int) : binD .mul (.lst f xs) (.int k) = if f ≠ .frz ∧ -(2 ^ 63) ≤ k ∧ k < 2 ^ 63 ∧ xs.length * k.toNat ≤ SZ then some (.lst .own (List.replicate k.toNat (shares xs)).flatten) else none := by
  simp only [binD]
  by_cases h : f ≠ .frz ∧ -(2 ^ 63) ≤ k ∧ k < 2 ^ 63 ∧ xs.length * k.toNat ≤ SZ
  · rw [if_pos h, if_pos h]
  · rw [if_neg h, if_neg h]
theorem mulL_ok (f : Fl) (xs : List D) (k : Nat) (hf : f ≠ .frz) (hk : xs.length * k ≤ 1000000) (hk2 : k ≤ 1000000) : binD .mul (.lst f xs) (.int (k : Int)) = some (.lst .own (List.replicate k (shares xs)).flatten) := by
  rw [b_mulL, Int.toNat_natCast, if_pos ⟨hf, by omega, by omega, by rw [SZ_val]; omega⟩]
end FL

/-! F23: `in` over coded items, comprehensions with two fors. -/
namespace FL
open PySem
theorem anyE {α : Type} [DecidableEq α] {ea : α → D} {n : Nat} (h : EqE ea ea n (fun a b => decide (a = b))) (x : α) (p : PyData) (hp : toP (ea x) = some p) : ∀ (xs : List α) (ps : List PyData), toP.toPs (xs.map ea) = some ps → (ps.any fun z => PyData.eqv z p) = decide (x ∈ xs)
  | [], ps, e => by cases e; simp
  | y :: ys, ps, e => by
    simp only [List.map_cons, toP.toPs] at e
    obtain ⟨q, e1, e⟩ := Option.bind_eq_some_iff.mp e
    obtain ⟨qs, e2, rfl⟩ := Option.map_eq_some_iff.mp e
    rw [List.any_cons, h.eq y x q p e1 hp, anyE h x p hp ys qs e2]
    by_cases c : y = x
    · subst c; simp
    · have c' : ¬ x = y := fun z => c z.symm
      simp [c, c']
theorem c_memE {α : Type} [DecidableEq α] {ea : α → D} {n : Nat} (h : EqE ea ea n (fun a b => decide (a = b))) (hn : n + 1 ≤ 64) (f : Fl) (x : α) (xs : List α) (hf : flatD (ea x) = false) : cmpD .mem (ea x) (.lst f (xs.map ea)) = some (decide (x ∈ xs)) := by
  obtain ⟨p, e1, l1, d1⟩ := h.ga x
  obtain ⟨ps, e2, l2, d2⟩ := goods h.ga xs
  have s1 : SeqAt.shaped p = true := by unfold SeqAt.shaped; rw [l1]; simp; omega
  have s2 : SeqAt.shaped (.list ps) = true := by
    unfold SeqAt.shaped
    simp only [PyData.canLay0, PyData.depth, l2]
    simp; omega
  simp only [cmpD]
  rw [if_neg (by simp [hf])]
  unfold memP
  rw [e1, e2]
  simp only [s1, s2, Bool.and_self, if_true]
  rw [anyE h x p e1 xs ps e2]
theorem comp2_flat {α β : Type} {t1 t2 : Tg} {i2 : Env → Option (List D × Env)} {ct : Env → Option (Bool × Env)} {ee : Env → Option (D × Env)} {ρ : Env} (enc : α → D) (g : α → List β) (eb res : β → D) : ∀ (l : List α) {acc : List D},
    (∀ a ∈ l, ∃ ρ1 ρ2 ρ3, bindT t1 (enc a) ρ = some ρ1 ∧ i2 ρ1 = some ((g a).map eb, ρ2) ∧ (∀ acc : List D, acc.length + (g a).length ≤ SZ → compL (bindT t2) ct ee t2.slots ((g a).map eb) (wipeD ρ2 t2.slots) acc = some (acc ++ (g a).map res, ρ3)) ∧ wipeD ρ3 (t1.slots ++ t2.slots) = ρ) →
    acc.length + (l.flatMap g).length ≤ SZ → comp2L t1 t2 i2 ct ee (l.map enc) ρ acc = some (acc ++ (l.flatMap g).map res, ρ)
  | [], acc, _, _ => by simp [comp2L]
  | a :: l, acc, h, hz => by
    obtain ⟨ρ1, ρ2, ρ3, e1, e2, e3, e4⟩ := h a (by simp)
    simp only [List.flatMap_cons, List.length_append] at hz
    simp only [List.map_cons, comp2L, e1, e2, Option.bind_some, e3 acc (by omega), e4]
    rw [comp2_flat enc g eb res l (fun b hb => h b (by simp [hb])) (by simp only [List.length_append, List.length_map]; omega)]
    simp
/-- a comprehension with a test -/
theorem compL_filt {α : Type} {bind : D → Env → Option Env} {cond : Env → Option (Bool × Env)} {elt : Env → Option (D × Env)} {vs : List Nat} {ρ : Env} (enc res : α → D) (c : α → Bool) : ∀ (l : List α) {acc : List D},
    (∀ a ∈ l, ∃ ρ1 ρ2 ρ3, bind (enc a) ρ = some ρ1 ∧ cond ρ1 = some (c a, ρ2) ∧ wipeD ρ2 vs = ρ ∧ (c a = true → elt ρ2 = some (res a, ρ3) ∧ wipeD ρ3 vs = ρ)) → acc.length + l.length ≤ SZ → compL bind cond elt vs (l.map enc) ρ acc = some (acc ++ (l.filter c).map res, ρ)
  | [], acc, _, _ => by simp [compL]
  | a :: l, acc, h, hz => by
    obtain ⟨ρ1, ρ2, ρ3, e1, e2, e3, e4⟩ := h a (by simp)
    have hz' : acc.length < SZ := by simp only [List.length_cons] at hz; omega
    simp only [List.map_cons]
    unfold compL
    cases ca : c a with
    | false =>
      rw [ca] at e2
      simp only [e1, Option.bind_some, e2, e3]
      rw [compL_filt enc res c l (fun b hb => h b (List.mem_cons_of_mem _ hb)) (by simp only [List.length_cons] at hz; omega)]
      simp [ca]
    | true =>
      rw [ca] at e2
      obtain ⟨e5, e6⟩ := e4 ca
      simp only [e1, Option.bind_some, e2, e5, if_pos hz', e6]
      rw [compL_filt enc res c l (fun b hb => h b (List.mem_cons_of_mem _ hb)) (by simp only [List.length_append, List.length_cons, List.length_nil] at hz ⊢; omega)]
      simp [ca]
end FL

/-! F24: how to reckon with exceptions. -/
namespace FL
open PySem PySem.Spec PyProof.Rows L2
section
variable (Γ : Ctx) (ρ : Env)
@[simp] theorem x_call (f : Nat) (as : As) : evX Γ (.call f as) ρ = (evAs Γ as ρ).bind fun p => (takeA as p.1 p.2).bind fun q => (Γ.fx f q.1).bind fun r => (putA as r.2 q.2).map fun ρ' => (r.1, ρ') := by simp only [evX]
@[simp] theorem x_meth (m : PySem.Str) (o : A) (as : As) : evX Γ (.meth m o as) ρ = (evA Γ o ρ).bind fun x => (recvD o x.1 x.2).bind fun s => (methD Γ.ms m s).bind fun f => (evAs Γ as x.2).bind fun p => (takeA (.cons o as) (x.1 :: p.1) p.2).bind fun q => (Γ.fx f q.1).bind fun r => (putA (.cons o as) r.2 q.2).map fun ρ' => (r.1, ρ') := by simp only [evX]
def madeX : Exn × List (Option D) → Option (Exn × List (Option D))
  | (x, _ :: os) => some (x, os)
  | _ => none
@[simp] theorem madeX_mk (x : Exn) (o : Option D) (os : List (Option D)) : madeX (x, o :: os) = some (x, os) := Eq.trans rfl rfl
@[simp] theorem x_make (c : PySem.Str) (f : Nat) (as : As) : evX Γ (.make c f as) ρ = (evAs Γ as ρ).bind fun p => (takeA as p.1 p.2).bind fun q => (Γ.fx f (.obj .own c [] [] :: q.1)).bind fun r => (madeX r).bind fun z => (putA as z.2 q.2).map fun ρ' => (z.1, ρ') := by
  simp only [evX]; congr 1; funext p; congr 1; funext q; congr 1; funext r
  obtain ⟨d, os⟩ := r
  cases os <;> rfl
@[simp] theorem x_shr (a : E) : evX Γ (.shr a) ρ = evX Γ a ρ := by simp only [evX]
@[simp] theorem bare_2 {α : Type} (d : α) : bareO (d, [(none : Option D), none]) = some d := Eq.trans rfl rfl
@[simp] theorem s_setS (i : Nat) (a b e : E) : exS Γ (.setS i a b e) ρ = (evE Γ e ρ).bind fun p => (getS p.2 i).bind fun _ => (evE Γ a p.2).bind fun q => (evE Γ b q.2).bind fun r => (getS r.2 i).bind fun x => (slcS x q.1 r.1 p.1).map fun z => .nx (r.2.set i (some z)) := by simp only [exS]
@[simp] theorem s_swp (i j : Nat) (a b e : E) : exS Γ (.swp i j a b e) ρ = (evE Γ e ρ).bind fun p => (g2 (evE Γ a) (evE Γ b) i j p.1 p.2).map .nx := by simp only [exS]
@[simp] theorem g2_t (eb ec : Env → Option (D × Env)) (i j : Nat) (d1 d2 : D) (ρ : Env) : g2 eb ec i j (.tup [d1, d2]) ρ = ((getS ρ i).bind fun _ => (eb ρ).bind fun q => (getS q.2 i).bind fun x => (setID x q.1 d1).map fun z => q.2.set i (some z)).bind fun ρ1 =>
      (getS ρ1 j).bind fun _ => (ec ρ1).bind fun q => (getS q.2 j).bind fun x => (setID x q.1 d2).map fun z => q.2.set j (some z) := Eq.trans rfl rfl
theorem slcS_l (xs ys : List D) (a b : Int) (h : 0 ≤ a ∧ a ≤ b ∧ b ≤ xs.length ∧ xs.length + ys.length ≤ SZ) : slcS (.lst .own xs) (.int a) (.int b) (.lst .own ys) = some (.lst .own (xs.take a.toNat ++ ys ++ xs.drop b.toNat)) := by
  simp only [slcS]
  rw [if_pos h]
@[simp] theorem e_gti (o b : E) : evE Γ (.gti o b) ρ = (evE Γ o ρ).bind fun p => (evE Γ b p.2).bind fun q => (methD Γ.ms (PySem.Str.ofString "__getitem__") p.1).bind fun f => (Γ.fs f [p.1, q.1]).bind fun r => (bareO r).map fun d => (d, q.2) := by simp only [evE]
@[simp] theorem x_gti (o b : E) : evX Γ (.gti o b) ρ = (evE Γ o ρ).bind fun p => (evE Γ b p.2).bind fun q => (methD Γ.ms (PySem.Str.ofString "__getitem__") p.1).bind fun f => (Γ.fx f [p.1, q.1]).bind fun r => (bareO r).map fun x => (x, q.2) := by simp only [evX]
@[simp] theorem x_cmp (op : COp) (a b : E) : evX Γ (.cmp op a b) ρ = evX Γ a ρ := by simp only [evX]
@[simp] theorem x_blt (b : Blt) (es : Es) : evX Γ (.blt b es) ρ = evXs Γ es ρ := by simp only [evX]
@[simp] theorem x_tup (es : Es) : evX Γ (.tup es) ρ = evXs Γ es ρ := by simp only [evX]
def nextX (a : Option (D × Env)) (b : Option (Exn × Env)) (k : Env → Option (Exn × Env)) : Option (Exn × Env) := match a with
  | some p => k p.2
  | none => b
@[simp] theorem nextX_some (p : D × Env) (b : Option (Exn × Env)) (k : Env → Option (Exn × Env)) : nextX (some p) b k = k p.2 := Eq.trans rfl rfl
@[simp] theorem nextX_none (b : Option (Exn × Env)) (k : Env → Option (Exn × Env)) : nextX none b k = b := Eq.trans rfl rfl
@[simp] theorem xs_cons (e : E) (es : Es) : evXs Γ (.cons e es) ρ = nextX (evE Γ e ρ) (evX Γ e ρ) (evXs Γ es) := by
  simp only [evXs, nextX] <;> (cases evE Γ e ρ <;> rfl)
@[simp] theorem orX_some (fl : Flow) (b : Option (Exn × Env)) : orX (some fl) b = some fl := Eq.trans rfl rfl
@[simp] theorem orX_none (b : Option (Exn × Env)) : orX none b = b.map fun p => .ex p.1 p.2 := Eq.trans rfl rfl
@[simp] theorem m_set (e : E) (t : Tg) : mayN Γ e ρ (.set t) = (evE Γ e ρ).bind fun p => (bindT t p.1 p.2).map .nx := by simp only [mayN]
@[simp] theorem m_ex (e : E) : mayN Γ e ρ .ex = (evE Γ e ρ).map fun p => .nx p.2 := by simp only [mayN]
@[simp] theorem m_ret (e : E) : mayN Γ e ρ .ret = (evE Γ e ρ).map fun p => .rt p.1 p.2 := by simp only [mayN]
@[simp] theorem s_may (k : May) (e : E) : exS Γ (.may k e) ρ = orX (mayN Γ e ρ k) (evX Γ e ρ) := by simp only [exS]
@[simp] theorem s_rse0 (c : PySem.Str) : exS Γ (.rse0 c) ρ = some (.ex ⟨c, none⟩ ρ) := by simp only [exS]
@[simp] theorem s_rse1 (c f : PySem.Str) (e : E) : exS Γ (.rse1 c f e) ρ = (evE Γ e ρ).map fun p => .ex ⟨c, some (f, p.1)⟩ p.2 := by simp only [exS]
def tryF (x : Option Flow) (k : Exn → Env → Option Flow) : Option Flow := x.bind fun fl => match fl with
  | .ex x ρ1 => k x ρ1
  | fl => some fl
@[simp] theorem tryF_nx (k : Exn → Env → Option Flow) : tryF (some (.nx ρ)) k = some (.nx ρ) := Eq.trans rfl rfl
@[simp] theorem tryF_rt (d : D) (k : Exn → Env → Option Flow) : tryF (some (.rt d ρ)) k = some (.rt d ρ) := Eq.trans rfl rfl
@[simp] theorem tryF_bk (k : Exn → Env → Option Flow) : tryF (some (.bk ρ)) k = some (.bk ρ) := Eq.trans rfl rfl
@[simp] theorem tryF_ct (k : Exn → Env → Option Flow) : tryF (some (.ct ρ)) k = some (.ct ρ) := Eq.trans rfl rfl
@[simp] theorem tryF_ex (x : Exn) (k : Exn → Env → Option Flow) : tryF (some (.ex x ρ)) k = k x ρ := Eq.trans rfl rfl
@[simp] theorem s_try (b : Ss) (hs : List Hd) : exS Γ (.try_ b hs) ρ = tryF (exSs Γ b ρ) (fun x ρ1 => exHd Γ x ρ1 hs) := by
  simp only [exS, tryF] <;> (rcases exSs Γ b ρ with _ | fl; rfl; cases fl <;> rfl)
@[simp] theorem thenS_ex (x : Exn) (k : Env → Option Flow) : thenS (some (.ex x ρ)) k = some (.ex x ρ) := Eq.trans rfl rfl
@[simp] theorem hd_nil (x : Exn) : exHd Γ x ρ [] = some (.ex x ρ) := by simp only [exHd]
@[simp] theorem hd_cons (x : Exn) (h : Hd) (hs : List Hd) : exHd Γ x ρ (h :: hs) = (isX Γ.xt x.c h.c).bind fun b => if b = true then exSS Γ x (slOut ρ h.sl) h.s else exHd Γ x ρ hs := by simp only [exHd]
@[simp] theorem slOut_n : slOut ρ none = ρ := Eq.trans rfl rfl
@[simp] theorem slOut_s (i : Nat) : slOut ρ (some i) = ρ.set i none := Eq.trans rfl rfl
@[simp] theorem ss_set (x : Exn) (i : Nat) (e : SE) : exSS Γ x ρ (.set i e) = (evSE Γ x e).bind fun d => (putS ρ i d).map .nx := by simp only [exSS]
@[simp] theorem ss_ret (x : Exn) (e : SE) : exSS Γ x ρ (.ret e) = (evSE Γ x e).map fun d => .rt d ρ := by simp only [exSS]
@[simp] theorem se_cst (x : Exn) (c : Cst) : evSE Γ x (.cst c) = some (evCst c) := by simp only [evSE]
@[simp] theorem se_fld (c f g : PySem.Str) (d : D) : evSE Γ ⟨c, some (g, d)⟩ (.fld f) = if g = f then some (share d) else none := by simp only [evSE, Option.bind_some]
@[simp] theorem se_isx (x : Exn) (c : PySem.Str) : evSE Γ x (.isx c) = (isX Γ.xt x.c c).map .bl := by simp only [evSE]
@[simp] theorem se_tup (x : Exn) (es : SEs) : evSE Γ x (.tup es) = (evSEs Γ x es).bind fun ds => if ds.length ≤ SZ then some (.tup ds) else none := by simp only [evSE]
def andD : D → Option D → Option D
  | .bl true, b => b.bind fun d' => match d' with
    | .bl k => some (.bl k)
    | _ => none
  | .bl false, _ => some (.bl false)
  | _, _ => none
@[simp] theorem andD_t (k : Bool) : andD (.bl true) (some (.bl k)) = some (.bl k) := Eq.trans rfl rfl
@[simp] theorem andD_f (b : Option D) : andD (.bl false) b = some (.bl false) := Eq.trans rfl rfl
@[simp] theorem se_and (x : Exn) (a b : SE) : evSE Γ x (.and a b) = (evSE Γ x a).bind fun d => andD d (evSE Γ x b) := by
  simp only [evSE]; congr 1; funext d
  cases d with
  | bl k => cases k <;> rfl
  | _ => rfl
@[simp] theorem intO_int (i : Int) : intO (.int i) = some true := Eq.trans rfl rfl
@[simp] theorem se_int (x : Exn) (f : Nat) (a : SE) : evSE Γ x (.isint f a) = (evSE Γ x a).bind fun d => (intO d).map .bl := by simp only [evSE]
@[simp] theorem ses_nil (x : Exn) : evSEs Γ x .nil = some [] := by simp only [evSEs]
@[simp] theorem ses_cons (x : Exn) (e : SE) (es : SEs) : evSEs Γ x (.cons e es) = (evSE Γ x e).bind fun d => (evSEs Γ x es).map fun ds => d :: ds := by simp only [evSEs]
end
/-- a def that raises -/
def endX (io : List Nat) (n : Nat) (x : Option Flow) : Option (Exn × List (Option D)) := x.bind fun fl => match fl with
  | .ex x ρ => some (x, outsFrom io ρ 0 n)
  | _ => none
@[simp] theorem endX_ex (io : List Nat) (n : Nat) (x : Exn) (ρ : Env) : endX io n (some (.ex x ρ)) = some (x, outsFrom io ρ 0 n) := Eq.trans rfl rfl
@[simp] theorem endF_ex (io : List Nat) (n : Nat) (x : Exn) (ρ : Env) : endF io n (some (.ex x ρ)) = none := Eq.trans rfl rfl
@[simp] theorem endX_nx (io : List Nat) (n : Nat) (ρ : Env) : endX io n (some (.nx ρ)) = none := Eq.trans rfl rfl
@[simp] theorem endX_rt (io : List Nat) (n : Nat) (d : D) (ρ : Env) : endX io n (some (.rt d ρ)) = none := Eq.trans rfl rfl
@[simp] theorem isi_dic (n : String) : isiD .dic (.bi n) = some (decide (n = "dict")) := by simp only [isiD]
@[simp] theorem sh_dic : share .dic = .dic := by simp [share]
@[simp] theorem e_dic (Γ : Ctx) (ρ : Env) : evE Γ .dic0 ρ = some (.dic, ρ) := by simp only [evE]
theorem runFnX_eq {Γ : Ctx} {fn : Fn} {ds : List D} (h : ds.length = fn.ps.length) : runFnX Γ fn ds = endX fn.io fn.ps.length (exSs Γ fn.body (ds.map some ++ List.replicate (fn.N.length - ds.length) none)) := by
  unfold runFnX endX
  (rw [if_pos h]) <;> rfl
end FL

/-! F25: how to reckon with names for items, loops that change their items, own ==. -/
namespace FL
open PySem PySem.Spec PyProof.Rows L2
section
variable (Γ : Ctx) (ρ : Env)
@[simp] theorem e_oeq (o b : E) : evE Γ (.oeq o b) ρ = (evE Γ o ρ).bind fun p => (evE Γ b p.2).bind fun q => if eqR p.1 q.1 = true then (methD Γ.ms (PySem.Str.ofString "__eq__") p.1).bind fun f => (Γ.fs f [p.1, q.1]).bind fun r => (bareO r).bind fun d => (blO d).map fun k => (.bl k, q.2) else none := by simp only [evE]
noncomputable def lrgD : D → Option D
  | .int n => @ite _ (-(2 ^ 62) ≤ n ∧ n ≤ 16777216) (Classical.propDecidable _) (some (.lst .own (rngL 0 n.toNat))) none
  | _ => none
@[simp] theorem e_lrg (a : E) : evE Γ (.lrg a) ρ = (evE Γ a ρ).bind fun p => (lrgD p.1).map fun d => (d, p.2) := by
  simp only [evE]
  congr 1; funext p
  obtain ⟨d, ρ'⟩ := p
  cases d <;> try rfl
  simp only [lrgD]
  split <;> rfl
theorem lrgD_int (n : Int) (h : -(2 ^ 62) ≤ n ∧ n ≤ 16777216) : lrgD (.int n) = some (.lst .own (rngL 0 n.toNat)) := by
  simp only [lrgD]
  rw [if_pos h]
@[simp] theorem e_plc (p : Pl) : evE Γ (.plc p) ρ = (getP ρ p).bind fun y => (putP ρ p (share y)).map fun z => (share y, ρ.set p.base (some z)) := by simp only [evE]
@[simp] theorem bindT_l (is : List Nat) (f : Fl) (ds : List D) : bindT (.names is) (.lst f ds) ρ = if is.length = ds.length then putAll ρ is (shares ds) else none := Eq.trans rfl rfl
@[simp] theorem blO_bl (b : Bool) : blO (.bl b) = some b := Eq.trans rfl rfl
@[simp] theorem eqR_o (f g : Fl) (c c' : PySem.Str) (ns ms : List PySem.Str) (xs ys : List D) : eqR (.obj f c ns xs) (.obj g c' ms ys) = decide (c = c') := Eq.trans rfl rfl
@[simp] theorem eqR_n (f : Fl) (c : PySem.Str) (ns : List PySem.Str) (xs : List D) : eqR (.obj f c ns xs) .non = true := Eq.trans rfl rfl
@[simp] theorem eqR_l (f g : Fl) (c : PySem.Str) (ns : List PySem.Str) (xs ys : List D) : eqR (.obj f c ns xs) (.lst g ys) = true := Eq.trans rfl rfl
@[simp] theorem eqR_t (f : Fl) (c : PySem.Str) (ns : List PySem.Str) (xs ys : List D) : eqR (.obj f c ns xs) (.tup ys) = true := Eq.trans rfl rfl
@[simp] theorem io_o (f : Fl) (c c' : PySem.Str) (ns : List PySem.Str) (xs : List D) : isiD (.obj f c ns xs) (.own c') = if c = c' then some true else none := Eq.trans rfl rfl
@[simp] theorem io_n (c : PySem.Str) : isiD .non (.own c) = some false := Eq.trans rfl rfl
@[simp] theorem io_l (f : Fl) (xs : List D) (c : PySem.Str) : isiD (.lst f xs) (.own c) = some false := Eq.trans rfl rfl
@[simp] theorem io_t (xs : List D) (c : PySem.Str) : isiD (.tup xs) (.own c) = some false := Eq.trans rfl rfl
@[simp] theorem s_mutN (i : Nat) (op : MOp) (es : Es) : exS Γ (.mutN i op es) ρ = (getS ρ i).bind fun x0 => if isLst x0 = true then (evEs Γ es ρ).bind fun q => (getS q.2 i).bind fun x => (lstO x).bind fun ds => (mopD op ds q.1).map fun ds' => .nx (q.2.set i (some (.lst .own ds'))) else none := by simp only [exS]
@[simp] theorem s_loopO (t b : Nat) (body : Ss) : exS Γ (.loopO t b body) ρ = (lenO ρ b).bind fun n => loopOL (exSs Γ body) t b n n 0 ρ := by simp only [exS]
@[simp] theorem s_par (is : List Nat) (es : Es) : exS Γ (.par is es) ρ = (evEs Γ es ρ).bind fun p => (putAll p.2 is p.1).map .nx := by simp only [exS]
@[simp] theorem allV_c (r : Flow) : (allV fun _ => some r) = some r := allV_of fun _ => rfl
@[simp] theorem giveF_nx (i b : Nat) (ns : List Int) (v : V) : giveF i b ns v (.nx ρ) = (giveE i b ns v ρ).map .nx := Eq.trans rfl rfl
@[simp] theorem giveF_rt (i b : Nat) (ns : List Int) (v : V) (d : D) : giveF i b ns v (.rt d ρ) = match getS ρ i with
    | some _ => (giveE i b ns v ρ).map (.rt d)
    | none => some (.rt d (ρ.set b none)) := Eq.trans rfl rfl
theorem giveE_of {i b : Nat} {ns : List Int} {v : V} {ρ : Env} {y d z : D} (h1 : getS ρ i = some y) (h2 : getS ρ b = some d) (h3 : getN ns d = some (.hole v)) (h4 : putN ns d y = some z) : giveE i b ns v ρ = some ((ρ.set i none).set b (some z)) := by
  unfold giveE
  rw [h1, h2]
  simp only [Option.bind_some]
  rw [if_pos h3, h4]
  rfl
end
end FL

/-! F26: places by their paths; a name for an item; a loop that changes its items. -/
namespace FL
open PySem PySem.Spec PyProof.Rows L2
theorem getN_snoc (n : Int) : ∀ (ns : List Int) (d : D), getN (ns ++ [n]) d = (getN ns d).bind fun x => get1 x n
  | [], d => by simp [getN]
  | m :: ns, d => by
    simp only [List.cons_append, getN]
    cases get1 d m with
    | none => rfl
    | some x => simp only [Option.bind_some]; exact getN_snoc n ns x
theorem putN_snoc (n : Int) (y : D) : ∀ (ns : List Int) (d : D), putN (ns ++ [n]) d y = (getN ns d).bind fun x => (put1 x n y).bind fun x' => putN ns d x'
  | [], d => by
    simp only [List.nil_append, putN, getN, Option.bind_some]
    cases e : get1 d n with
    | none =>
      simp only [Option.bind_none]
      unfold get1 at e
      unfold put1
      split at e
      · rename_i ho
        rw [if_pos ho]
        cases ei : ixN (itemsD d).length n with
        | none => rfl
        | some j =>
          rw [ei] at e
          simp only [Option.bind_some] at e
          have := ixN_lt ei
          rw [List.getElem?_eq_getElem this] at e
          cases e
      · rename_i ho
        rw [if_neg ho]; rfl
    | some x => simp
  | m :: ns, d => by
    simp only [List.cons_append, putN, getN]
    cases get1 d m with
    | none => rfl
    | some x =>
      simp only [Option.bind_some]
      rw [putN_snoc n y ns x]
      cases getN ns x with
      | none => rfl
      | some x1 =>
        simp only [Option.bind_some]
        cases put1 x1 n y with
        | none => rfl
        | some x2 => simp only [Option.bind_some]
theorem getP_N {ρ : Env} {d : D} : ∀ {p : Pl} {ns : List Int}, getS ρ p.base = some d → ixsD ρ p = some ns → getP ρ p = getN ns d
  | .nm i, ns, h, e => by
    cases e
    simp only [getP, getN]; exact h
  | .sub p ix, ns, h, e => by
    simp only [ixsD] at e
    obtain ⟨ms, e1, e⟩ := bnd e
    obtain ⟨n, e2, rfl⟩ := mpd e
    simp only [getP]
    rw [getP_N (p := p) h e1, getN_snoc, e2]
    rfl
theorem putP_N {ρ : Env} {d : D} : ∀ {p : Pl} {ns : List Int} {y : D}, getS ρ p.base = some d → ixsD ρ p = some ns → putP ρ p y = putN ns d y
  | .nm i, ns, y, h, e => by
    cases e
    simp only [putP, putN]
  | .sub p ix, ns, y, h, e => by
    simp only [ixsD] at e
    obtain ⟨ms, e1, e⟩ := bnd e
    obtain ⟨n, e2, rfl⟩ := mpd e
    simp only [putP]
    rw [getP_N (p := p) h e1, putN_snoc, e2]
    cases getN ms d with
    | none => rfl
    | some x =>
      simp only [Option.bind_some]
      cases put1 x n y with
      | none => rfl
      | some x' => simp only [Option.bind_some]; exact putP_N (p := p) h e1
theorem put1_of {d x : D} {n : Int} (y : D) (h : get1 d n = some x) : ∃ z, put1 d n y = some z ∧ get1 z n = some y ∧ ∀ y', put1 z n y' = put1 d n y' := by
  obtain ⟨j, ho, ej, ex⟩ := get1_some h
  have hj := ixN_lt ej
  have l : ((itemsD d).set j y).length = (itemsD d).length := List.length_set
  refine ⟨setSeq d ((itemsD d).set j y), by unfold put1; rw [if_pos ho, ej]; rfl, ?_, fun y' => ?_⟩
  · unfold get1
    rw [if_pos (setSeq_own ho), items_setSeq ho, l, ej]
    simp [hj]
  · unfold put1
    rw [if_pos (setSeq_own ho), items_setSeq ho, l, if_pos ho, ej]
    simp [setSeq_setSeq, List.set_set]
theorem putN_of : ∀ {ns : List Int} {d x : D} (y : D), getN ns d = some x → ∃ z, putN ns d y = some z ∧ getN ns z = some y ∧ ∀ y', putN ns z y' = putN ns d y'
  | [], d, x, y, h => ⟨y, rfl, rfl, fun _ => rfl⟩
  | n :: ns, d, x, y, h => by
    simp only [getN] at h
    obtain ⟨x1, e1, e2⟩ := bnd h
    obtain ⟨z1, f1, f2, f3⟩ := putN_of y e2
    obtain ⟨z, g1, g2, g3⟩ := put1_of z1 e1
    refine ⟨z, by simp only [putN, e1, Option.bind_some, f1]; exact g1, by simp only [getN, g2, Option.bind_some]; exact f2, fun y' => ?_⟩
    simp only [putN, g2, e1, Option.bind_some, f3]
    cases putN ns x1 y' with
    | none => rfl
    | some q => simp only [Option.bind_some]; exact g3 q
theorem getS_set_eq {ρ : Env} {i : Nat} {d : D} (h : i < ρ.length) : getS (ρ.set i (some d)) i = some d := by
  unfold getS
  rw [List.getElem?_set_self h]
/-- a name for an item: the body leaves the container alone -/
theorem ss_ali_nx {Γ : Ctx} {ρ ρ2 : Env} {i : Nat} {p : Pl} {body rest : Ss} {y y' d z' : D} {ns : List Int} (h2 : ixsD ρ p = some ns) (h3 : getS ρ p.base = some d) (h1 : getN ns d = some y) (hne : i ≠ p.base) (hi : i < ρ.length)
    (hb : ∀ z : D, exSs Γ body ((ρ.set p.base (some z)).set i (some y)) = some (.nx (ρ2.set p.base (some z)))) (h5 : getS ρ2 i = some y') (hl : p.base < ρ2.length) (h6 : putN ns d y' = some z') :
    exSs Γ (.ali i p body rest) ρ = exSs Γ rest ((ρ2.set i none).set p.base (some z')) := by
  rw [ss_ali, getP_N h3 h2, h1, h2]
  simp only [Option.bind_some]
  rw [allV_of (r := .nx ((ρ2.set i none).set p.base (some z')))]
  · rfl
  · intro v
    obtain ⟨z, f1, f2, f3⟩ := putN_of (.hole v) h1
    rw [putP_N h3 h2, f1]
    simp only [Option.bind_some]
    have hp : putS (ρ.set p.base (some z)) i y = some ((ρ.set p.base (some z)).set i (some y)) := by unfold putS; rw [if_pos (by rw [len_set]; exact hi)]
    rw [hp]
    simp only [Option.bind_some]
    rw [hb z]
    simp only [Option.bind_some, giveF_nx]
    rw [giveE_of (y := y') (d := z) (z := z') ((getS_set_ne (Ne.symm hne)).trans h5) (getS_set_eq hl) f2 ((f3 y').trans h6)]
    simp only [Option.map_some]
    rw [List.set_comm _ _ (Ne.symm hne), List.set_set]
/-- a loop that changes its items; the body leaves the list alone -/
theorem loopOL_st {σ : Type} {body : Env → Option Flow} {t b : Nat} (htb : t ≠ b) (env : σ → Env) (ds : List D) (I : Nat → σ → Prop) (R : Nat → D → D → Prop) (hb : ∀ s, b < (env s).length) (ht : ∀ s, t < (env s).length)
    (step : ∀ j s y, ds[j]? = some y → I j s → ∃ s' y', (∀ z : D, body (((env s).set b (some z)).set t (some y)) = some (.nx ((env s').set b (some z)))) ∧ getS (env s') t = some y' ∧ R j y y' ∧ I (j + 1) s') :
    ∀ (s : σ) (xs : List D), I xs.length s → (∀ j x y, xs[j]? = some x → ds[j]? = some y → R j y x) → ∀ (rest : List D), rest = ds.drop xs.length → xs.length ≤ ds.length → (env s)[t]? = some none ∨ xs ≠ [] →
      ∃ s' ds', loopOL body t b ds.length (ds.length - xs.length) xs.length (((env s).set t none).set b (some (.lst .own (xs ++ rest)))) = some (.nx (((env s').set t none).set b (some (.lst .own ds')))) ∧ ds'.length = ds.length ∧ (∀ j x y, ds'[j]? = some x → ds[j]? = some y → R j y x) ∧ I ds.length s' := by
  intro s xs hI hR rest hr hle hd
  induction hk : ds.length - xs.length generalizing s xs rest with
  | zero =>
    have e : xs.length = ds.length := by omega
    have er : rest = [] := by rw [hr, e]; simp
    subst er
    refine ⟨s, xs, ?_, e, hR, by rw [← e]; exact hI⟩
    unfold loopOL
    rw [List.append_nil]
    have : lenO (((env s).set t none).set b (some (.lst .own xs))) b = some ds.length := by
      unfold lenO
      rw [getS_set_eq (by rw [len_set]; exact hb s)]
      simp [lstO, e]
    rw [if_pos this]
  | succ k ih =>
    have hlt : xs.length < ds.length := by omega
    have ey : ds[xs.length]? = some ds[xs.length] := List.getElem?_eq_getElem hlt
    obtain ⟨s', y', hbody, hy', hRy, hI'⟩ := step xs.length s _ ey hI
    have er : rest = ds[xs.length] :: ds.drop (xs.length + 1) := by rw [hr]; exact List.drop_eq_getElem_cons hlt
    have hlen : (xs ++ rest).length = ds.length := by rw [hr]; simp; omega
    have hL : lenO (((env s).set t none).set b (some (.lst .own (xs ++ rest)))) b = some ds.length := by
      unfold lenO
      rw [getS_set_eq (by rw [len_set]; exact hb s)]
      simp only [Option.bind_some, lstO, Option.map_some, hlen]
    have hget : (xs ++ rest)[xs.length]? = some ds[xs.length] := by rw [List.getElem?_append_right (Nat.le_refl _), Nat.sub_self, er]; rfl
    have hstep : stepO body t b xs.length (((env s).set t none).set b (some (.lst .own (xs ++ rest)))) = some (.nx (((env s').set t none).set b (some (.lst .own ((xs ++ [y']) ++ ds.drop (xs.length + 1)))))) := by
      unfold stepO
      rw [getS_set_eq (by rw [len_set]; exact hb s)]
      simp only [Option.bind_some, lstO, hget]
      refine allV_of fun v => ?_
      have hp : putS ((((env s).set t none).set b (some (.lst .own (xs ++ rest)))).set b (some (.lst .own ((xs ++ rest).set xs.length (.hole v))))) t ds[xs.length] = some (((env s).set b (some (.lst .own ((xs ++ rest).set xs.length (.hole v))))).set t (some ds[xs.length])) := by
        unfold putS
        rw [if_pos (by rw [len_set, len_set, len_set]; exact ht s), List.set_set, List.set_comm _ _ (Ne.symm htb), List.set_set, List.set_comm _ _ htb]
      rw [hp]
      simp only [Option.bind_some]
      rw [hbody]
      simp only [Option.bind_some, giveF_nx]
      have hj : xs.length < ((xs ++ rest).set xs.length (.hole v)).length := by rw [List.length_set, hlen]; exact hlt
      have g1 : getN [(xs.length : Int)] (.lst .own ((xs ++ rest).set xs.length (.hole v))) = some (.hole v) := by
        simp only [getN, get1, ownC, itemsD, if_true]
        rw [ixN_ok _ _ hj]
        show ((xs ++ rest).set xs.length (.hole v))[xs.length]?.bind some = _
        rw [List.getElem?_set_self (by rw [hlen]; exact hlt)]
        rfl
      have g2 : putN [(xs.length : Int)] (.lst .own ((xs ++ rest).set xs.length (.hole v))) y' = some (.lst .own ((xs ++ rest).set xs.length y')) := by
        simp only [putN, get1, put1, ownC, itemsD, if_true]
        rw [ixN_ok _ _ hj]
        simp only [Option.bind_some, Option.map_some, setSeq, List.set_set]
        rw [List.getElem?_set_self (by rw [hlen]; exact hlt)]
        rfl
      rw [giveE_of ((getS_set_ne (Ne.symm htb)).trans hy') (getS_set_eq (hb s')) g1 g2]
      simp only [Option.map_some]
      rw [List.set_comm _ _ (Ne.symm htb), List.set_set]
      have el : (xs ++ rest).set xs.length y' = (xs ++ [y']) ++ ds.drop (xs.length + 1) := by
        rw [er, List.set_append_right _ _ (Nat.le_refl _), Nat.sub_self, List.append_assoc]
        rfl
      rw [el]
    unfold loopOL
    rw [if_pos hL, hstep]
    simp only [Option.bind_some]
    have l1 : (xs ++ [y']).length = xs.length + 1 := by simp
    obtain ⟨s2, ds', e, h1, h2, h3⟩ := ih s' (xs ++ [y']) (by rw [l1]; exact hI') (fun j x y hx hy => by
      by_cases hj : j < xs.length
      · rw [List.getElem?_append_left hj] at hx
        exact hR j x y hx hy
      · have : j = xs.length := by
          have := (List.getElem?_eq_some_iff.mp hx).1
          rw [l1] at this; omega
        subst this
        simp at hx
        subst hx
        rw [ey] at hy; cases hy
        exact hRy) (ds.drop (xs.length + 1)) (by rw [l1]) (by rw [l1]; omega) (.inr (by simp)) (by rw [l1]; omega)
    rw [l1] at e
    exact ⟨s2, ds', e, h1, h2, h3⟩
theorem loopO_ok {σ : Type} {body : Env → Option Flow} {t b : Nat} (htb : t ≠ b) (env : σ → Env) (ds : List D) (I : Nat → σ → Prop) (R : Nat → D → D → Prop) (hb : ∀ s, b < (env s).length) (ht : ∀ s, t < (env s).length)
    (step : ∀ j s y, ds[j]? = some y → I j s → ∃ s' y', (∀ z : D, body (((env s).set b (some z)).set t (some y)) = some (.nx ((env s').set b (some z)))) ∧ getS (env s') t = some y' ∧ R j y y' ∧ I (j + 1) s') (s : σ) (h0 : I 0 s) (hn : (env s).set t none = env s) :
    ∃ s' ds', ((lenO ((env s).set b (some (.lst .own ds))) b).bind fun n => loopOL body t b n n 0 ((env s).set b (some (.lst .own ds)))) = some (.nx (((env s').set t none).set b (some (.lst .own ds')))) ∧ ds'.length = ds.length ∧ (∀ j x y, ds'[j]? = some x → ds[j]? = some y → R j y x) ∧ I ds.length s' := by
  have hL : lenO ((env s).set b (some (.lst .own ds))) b = some ds.length := by
    unfold lenO
    rw [getS_set_eq (hb s)]
    rfl
  rw [hL]
  simp only [Option.bind_some]
  obtain ⟨s', ds', e, h⟩ := loopOL_st htb env ds I R hb ht step s [] h0 (by simp) ds rfl (by simp) (.inl (by rw [← hn, List.getElem?_set_self (ht s)]))
  rw [hn] at e
  exact ⟨s', ds', e, h⟩
/-! ### places by numbers -/
theorem get1_l (xs : List D) (n : Nat) : get1 (.lst .own xs) (n : Int) = xs[n]? := by
  simp only [get1, ownC, itemsD, if_true]
  by_cases h : n < xs.length
  · rw [ixN_ok _ _ h]; rfl
  · rw [List.getElem?_eq_none (by omega)]
    unfold ixN
    simp [h]
theorem get1_t (xs : List D) (n : Nat) : get1 (.tup xs) (n : Int) = xs[n]? := by
  simp only [get1, ownC, itemsD, if_true]
  by_cases h : n < xs.length
  · rw [ixN_ok _ _ h]; rfl
  · rw [List.getElem?_eq_none (by omega)]
    unfold ixN
    simp [h]
theorem put1_l (xs : List D) (n : Nat) (y : D) (h : n < xs.length) : put1 (.lst .own xs) (n : Int) y = some (.lst .own (xs.set n y)) := by
  simp only [put1, ownC, itemsD, if_true]
  rw [ixN_ok _ _ h]; rfl
theorem put1_t (xs : List D) (n : Nat) (y : D) (h : n < xs.length) : put1 (.tup xs) (n : Int) y = some (.tup (xs.set n y)) := by
  simp only [put1, ownC, itemsD, if_true]
  rw [ixN_ok _ _ h]; rfl
theorem get1_t1 (a b : D) : get1 (.tup [a, b]) 1 = some b := get1_t [a, b] 1
theorem put1_t1 (a b y : D) : put1 (.tup [a, b]) 1 y = some (.tup [a, y]) := put1_t [a, b] 1 y (by simp)
theorem get1_t0 (a b : D) : get1 (.tup [a, b]) 0 = some a := get1_t [a, b] 0
theorem put1_t0 (a b y : D) : put1 (.tup [a, b]) 0 y = some (.tup [y, b]) := put1_t [a, b] 0 y (by simp)
@[simp] theorem c_isb (a b : Bool) : cmpD .isN (.bl a) (.bl b) = some (decide (a = b)) := Eq.trans rfl rfl
@[simp] theorem c_notb (a b : Bool) : cmpD .notN (.bl a) (.bl b) = some (!decide (a = b)) := Eq.trans rfl rfl
theorem shares_set (xs : List D) (j : Nat) (d : D) : shares (xs.set j d) = (shares xs).set j (share d) := by
  rw [shares_eq, shares_eq, List.map_set]
end FL

/-! F27: while loops by a measure; loops that may return. -/
namespace FL
open PySem PySem.Spec PyProof.Rows L2
theorem whlN_ok {σ : Type} {cond : Env → Option (Bool × Env)} {body : Env → Option Flow} (env : σ → Env) (μ : σ → Nat) (I : σ → Prop) (c : σ → Bool)
    (hc : ∀ s, I s → cond (env s) = some (c s, env s)) (hb : ∀ s, I s → c s = true → ∃ s', body (env s) = some (.nx (env s')) ∧ I s' ∧ μ s' < μ s) :
    ∀ (n : Nat) (s : σ), I s → μ s < n → ∃ s', whlN cond body n (env s) = some (.nx (env s')) ∧ I s' ∧ c s' = false
  | 0, s, _, h => by omega
  | n + 1, s, hI, h => by
    have e1 := hc s hI
    cases hcs : c s with
    | false =>
      rw [hcs] at e1
      exact ⟨s, by unfold whlN; rw [e1]; rfl, hI, hcs⟩
    | true =>
      rw [hcs] at e1
      obtain ⟨s1, e2, hI1, hm⟩ := hb s hI hcs
      obtain ⟨s2, e3, hI2, h2⟩ := whlN_ok env μ I c hc hb n s1 hI1 (by omega)
      refine ⟨s2, ?_, hI2, h2⟩
      unfold whlN
      rw [e1]
      simp only [Option.bind_some, e2]
      exact e3
theorem whlD_ok {σ : Type} {cond : Env → Option (Bool × Env)} {body : Env → Option Flow} (env : σ → Env) (μ : σ → Nat) (I : σ → Prop) (c : σ → Bool)
    (hc : ∀ s, I s → cond (env s) = some (c s, env s)) (hb : ∀ s, I s → c s = true → ∃ s', body (env s) = some (.nx (env s')) ∧ I s' ∧ μ s' < μ s) (s : σ) (h : I s) :
    ∃ s', whlD cond body (env s) = some (.nx (env s')) ∧ I s' ∧ c s' = false := by
  obtain ⟨s', e, q⟩ := whlN_ok env μ I c hc hb (μ s + 1) s h (by omega)
  exact ⟨s', whlD_of e, q⟩
theorem forL_go {α σ : Type} {bind : D → Env → Option Env} {body : Env → Option Flow} (enc : α → D) (env : σ → Env) (I : List α → σ → Prop) (Q : D → Env → Prop)
    (step : ∀ a l s, I (a :: l) s → (∃ s', ((bind (enc a) (env s)).bind body = some (.nx (env s')) ∨ (bind (enc a) (env s)).bind body = some (.ct (env s'))) ∧ I l s') ∨ ∃ d ρ, (bind (enc a) (env s)).bind body = some (.rt d ρ) ∧ Q d ρ) :
    ∀ (l : List α) (s : σ), I l s → (∃ s', forL bind body (l.map enc) (env s) = some (.nx (env s')) ∧ I [] s') ∨ ∃ d ρ, forL bind body (l.map enc) (env s) = some (.rt d ρ) ∧ Q d ρ
  | [], s, h => .inl ⟨s, rfl, h⟩
  | a :: l, s, h => by
    rcases step a l s h with ⟨s', e, h'⟩ | ⟨d, ρ, e, q⟩
    · have go := forL_go enc env I Q step l s' h'
      rcases e with e | e
      · obtain ⟨ρ1, e1, e2⟩ := bnd e
        simp only [List.map_cons]
        unfold forL
        rw [e1]
        simp only [Option.bind_some, e2]
        exact go
      · obtain ⟨ρ1, e1, e2⟩ := bnd e
        simp only [List.map_cons]
        unfold forL
        rw [e1]
        simp only [Option.bind_some, e2]
        exact go
    · obtain ⟨ρ1, e1, e2⟩ := bnd e
      refine .inr ⟨d, ρ, ?_, q⟩
      simp only [List.map_cons]
      unfold forL
      rw [e1]
      simp only [Option.bind_some, e2]
/-- a loop that tests its items -/
theorem forL_all {α σ : Type} {bind : D → Env → Option Env} {body : Env → Option Flow} (enc : α → D) (env : σ → Env) (p : α → Bool) (r : D) (l : List α)
    (step : ∀ a ∈ l, ∀ s, (p a = true ∧ ∃ s', (bind (enc a) (env s)).bind body = some (.nx (env s'))) ∨ (p a = false ∧ ∃ ρ, (bind (enc a) (env s)).bind body = some (.rt r ρ))) (s : σ) :
    (l.all p = true ∧ ∃ s', forL bind body (l.map enc) (env s) = some (.nx (env s'))) ∨ (l.all p = false ∧ ∃ ρ, forL bind body (l.map enc) (env s) = some (.rt r ρ)) := by
  induction l generalizing s with
  | nil => exact .inl ⟨rfl, s, rfl⟩
  | cons a l ih =>
    rcases step a (by simp) s with ⟨hp, s', e⟩ | ⟨hp, ρ, e⟩
    · obtain ⟨ρ1, e1, e2⟩ := bnd e
      have go := ih (fun b hb => step b (by simp [hb])) s'
      have : (a :: l).all p = l.all p := by simp [hp]
      rw [this]
      have e3 : forL bind body ((a :: l).map enc) (env s) = forL bind body (l.map enc) (env s') := by
        simp only [List.map_cons]
        conv => lhs; unfold forL
        rw [e1]
        simp only [Option.bind_some, e2]
      rw [e3]
      exact go
    · obtain ⟨ρ1, e1, e2⟩ := bnd e
      refine .inr ⟨by simp [hp], ρ, ?_⟩
      simp only [List.map_cons]
      unfold forL
      rw [e1]
      simp only [Option.bind_some, e2]
theorem forL_nx {bind : D → Env → Option Env} {body : Env → Option Flow} {d : D} {ds : List D} {ρ ρ2 : Env} (h : (bind d ρ).bind body = some (.nx ρ2)) : forL bind body (d :: ds) ρ = forL bind body ds ρ2 := by
  obtain ⟨ρ1, e1, e2⟩ := bnd h
  conv => lhs; unfold forL
  rw [e1]
  simp only [Option.bind_some, e2]
noncomputable def rng2O : D → D → Option (List D)
  | .int i, .int j => @ite _ (-(2 ^ 62) ≤ i ∧ i < 2 ^ 62 ∧ -(2 ^ 62) ≤ j ∧ j < 2 ^ 62) (Classical.propDecidable _) (some (rngL i (j - i).toNat)) none
  | _, _ => none
@[simp] theorem it_rng2s (Γ : Ctx) (ρ : Env) (a b : E) : evIt Γ (.rng2 a b) ρ = (evE Γ a ρ).bind fun p => (evE Γ b p.2).bind fun q => (rng2O p.1 q.1).map fun xs => (xs, q.2) := by
  simp only [evIt]; congr 1; funext p; congr 1; funext q; obtain ⟨d, r⟩ := p; obtain ⟨d', r'⟩ := q
  cases d <;> try rfl
  cases d' <;> try rfl
  simp only [rng2O]
  split <;> rfl
theorem rng2O_nat (i j : Nat) (hi : i ≤ 1000000) (hj : j ≤ 1000000) : rng2O (.int (i : Int)) (.int (j : Int)) = some (rngL (i : Int) (j - i)) := by
  unfold rng2O
  simp only
  rw [if_pos (by omega)]
  congr 2
  omega
end FL

/-! F28: comprehensions whose environment need not be written down. -/
namespace FL
open PySem PySem.Spec PyProof.Rows L2
theorem set_none {ρ : Env} {i : Nat} {x : Option D} (hi : ρ[i]? = some none) : (ρ.set i x).set i none = ρ := by
  rw [List.set_set]
  apply List.ext_getElem?
  intro j
  by_cases e : i = j
  · subst e; rw [List.getElem?_set_self (List.getElem?_eq_some_iff.mp hi).1, hi]
  · rw [List.getElem?_set_ne e]
/-- a comprehension over coded items by one name: what an item gives, the name's slot set -/
theorem comp1 {α : Type} {Γ : Ctx} {e : E} {ρ : Env} {i : Nat} (hi : ρ[i]? = some none) (enc res : α → D) (l : List α) (hz : l.length ≤ SZ)
    (h : ∀ a ∈ l, ∃ y, evE Γ e (ρ.set i (some (enc a))) = some (res a, ρ.set i y)) : compL (bindT (.name i)) (evC Γ .no) (evE Γ e) [i] (l.map enc) ρ [] = some (l.map res, ρ) := by
  have hl := (List.getElem?_eq_some_iff.mp hi).1
  have key := compL_mapT (bind := bindT (.name i)) (cond := evC Γ .no) (elt := evE Γ e) (vs := [i]) (ρ := ρ) enc res l (acc := []) (fun a ha => by
    obtain ⟨y, ey⟩ := h a ha
    refine ⟨ρ.set i y, ?_, by simp only [wipeD]; exact set_none hi⟩
    have : bindT (.name i) (enc a) ρ = some (ρ.set i (some (enc a))) := by
      show putS ρ i (enc a) = _
      unfold putS; rw [if_pos hl]
    rw [this]
    simp [ey]) (by simpa using hz)
  rw [List.nil_append] at key
  exact key
theorem comp_copy (Γ : Ctx) (ρ : Env) (i : Nat) (f : Fl) (rows : List (List Int)) (hi : ρ[i]? = some none) (hz : rows.length ≤ SZ) :
    compL (bindT (.name i)) (evC Γ .no) (evE Γ (.blt .list (.cons (.var i) .nil))) [i] (rows.map (eRow f)) ρ [] = some (rows.map (eRow .own), ρ) := by
  have hl := (List.getElem?_eq_some_iff.mp hi).1
  refine comp1 hi (eRow f) (eRow .own) rows hz fun r hr => ⟨some (eRow f.sh r), ?_⟩
  have : getS (ρ.set i (some (eRow f r))) i = some (eRow f r) := getS_set_eq hl
  simp only [eRow] at *
  simp [this, shares_ints]
@[simp] theorem it_mvs (Γ : Ctx) (ρ : Env) (i : Nat) : evIt Γ (.mvs i) ρ = ((getS ρ i).bind lstO).map fun ds => (ds, ρ.set i none) := by simp only [evIt]
@[simp] theorem lstO_own (ds : List D) : lstO (.lst .own ds) = some ds := Eq.trans rfl rfl
end FL

/-! F29: a loop over an own list that leaves its items as they are, or returns one of them. -/
namespace FL
open PySem PySem.Spec PyProof.Rows L2
theorem loopOL_ret {body : Env → Option Flow} {t b : Nat} (htb : t ≠ b) (ρ : Env) (ds : List D) (hρ : getS ρ b = some (.lst .own ds)) (ht : ρ[t]? = some none) (p : D → Prop) (R : D → D → Env → Prop)
    (step : ∀ y ∈ ds, (p y ∧ ∀ z, body ((ρ.set b (some z)).set t (some y)) = some (.nx ((ρ.set b (some z)).set t (some y)))) ∨
      (¬ p y ∧ ∃ d ρ', R y d ρ' ∧ ∀ z, ∃ ρ'', body ((ρ.set b (some z)).set t (some y)) = some (.rt d ρ'') ∧ getS ρ'' t = none ∧ ρ''.set b none = ρ')) :
    ∀ (k j : Nat), j + k = ds.length → ((∀ y ∈ ds.drop j, p y) ∧ loopOL body t b ds.length k j ρ = some (.nx ρ)) ∨ (∃ y ∈ ds, ¬ p y ∧ ∃ d ρ', R y d ρ' ∧ loopOL body t b ds.length k j ρ = some (.rt d ρ'))
  | 0, j, hj => by
    refine .inl ⟨fun y hy => ?_, ?_⟩
    · rw [List.drop_eq_nil_of_le (by omega)] at hy; cases hy
    · unfold loopOL
      have : lenO ρ b = some ds.length := by unfold lenO; rw [hρ]; simp [lstO]
      rw [if_pos this]
  | k + 1, j, hj => by
    have hlt : j < ds.length := by omega
    have hm : ds[j] ∈ ds := List.getElem_mem hlt
    have htl : t < ρ.length := (List.getElem?_eq_some_iff.mp ht).1
    have hbl : b < ρ.length := by
      by_cases c : b < ρ.length
      · exact c
      · unfold getS at hρ
        rw [List.getElem?_eq_none (by omega)] at hρ
        cases hρ
    have hL : lenO ρ b = some ds.length := by unfold lenO; rw [hρ]; simp [lstO]
    have hp : ∀ v, putS (ρ.set b (some (.lst .own (ds.set j (.hole v))))) t ds[j] = some ((ρ.set b (some (.lst .own (ds.set j (.hole v))))).set t (some ds[j])) := fun v => by
      unfold putS
      rw [if_pos (by rw [len_set]; exact htl)]
    unfold loopOL
    rw [if_pos hL]
    rcases step ds[j] hm with ⟨q, e⟩ | ⟨q, d, ρ', hR, e⟩
    · have hs : stepO body t b j ρ = some (.nx ρ) := by
        unfold stepO
        rw [hρ]
        simp only [Option.bind_some, lstO, List.getElem?_eq_getElem hlt]
        refine allV_of fun v => ?_
        rw [hp v]
        simp only [Option.bind_some]
        rw [e]
        simp only [Option.bind_some, giveF_nx]
        have hj' : j < (ds.set j (.hole v)).length := by rw [List.length_set]; exact hlt
        have g1 : getN [(j : Int)] (.lst .own (ds.set j (.hole v))) = some (.hole v) := by
          simp only [getN, get1, ownC, itemsD, if_true]
          rw [ixN_ok _ _ hj']
          show (ds.set j (.hole v))[j]?.bind some = _
          rw [List.getElem?_set_self hlt]
          rfl
        have g2 : putN [(j : Int)] (.lst .own (ds.set j (.hole v))) ds[j] = some (.lst .own ((ds.set j (.hole v)).set j ds[j])) := by
          simp only [putN, get1, put1, ownC, itemsD, if_true]
          rw [ixN_ok _ _ hj']
          simp only [Option.bind_some, Option.map_some, setSeq, List.set_set]
          rw [List.getElem?_set_self hlt]
          rfl
        have gb : getS ((ρ.set b (some (.lst .own (ds.set j (.hole v))))).set t (some ds[j])) b = some (.lst .own (ds.set j (.hole v))) := (getS_set_ne htb).trans (getS_set_eq hbl)
        rw [giveE_of (getS_set_eq (by rw [len_set]; exact htl)) gb g1 g2]
        simp only [Option.map_some, List.set_set, List.set_getElem_self]
        congr 2
        apply List.ext_getElem?
        intro i
        by_cases c1 : b = i
        · subst c1
          rw [List.getElem?_set_self (by rw [len_set, len_set]; exact hbl)]
          unfold getS at hρ
          cases hx : ρ[b]? with
          | none => rw [hx] at hρ; cases hρ
          | some o =>
            cases o with
            | none => rw [hx] at hρ; cases hρ
            | some d => rw [hx] at hρ; cases hρ; rfl
        · rw [List.getElem?_set_ne c1]
          by_cases c2 : t = i
          · subst c2
            rw [List.getElem?_set_self (by rw [len_set]; exact htl), ht]
          · rw [List.getElem?_set_ne c2, List.getElem?_set_ne c1]
      rw [hs]
      simp only [Option.bind_some]
      rcases loopOL_ret htb ρ ds hρ ht p R step k (j + 1) (by omega) with ⟨g1, g2⟩ | g
      · refine .inl ⟨fun y hy => ?_, g2⟩
        rw [List.drop_eq_getElem_cons hlt] at hy
        rcases List.mem_cons.mp hy with rfl | hy
        · exact q
        · exact g1 y hy
      · exact .inr g
    · have hs : stepO body t b j ρ = some (.rt d ρ') := by
        unfold stepO
        rw [hρ]
        simp only [Option.bind_some, lstO, List.getElem?_eq_getElem hlt]
        refine allV_of fun v => ?_
        rw [hp v]
        simp only [Option.bind_some]
        obtain ⟨ρ'', e1, e2, e3⟩ := e (.lst .own (ds.set j (.hole v)))
        rw [e1]
        simp only [Option.bind_some, giveF_rt, e2, e3]
      rw [hs]
      exact .inr ⟨_, hm, q, d, ρ', hR, rfl⟩
end FL

namespace K24
open PySem PySem.Spec PyProof.Rows L2 FL
def topS (i : Nat) : Stmt := PySem.Challenge.pw_latecomers_k24_refused_scripts.main.body.getD i (.Pass ⟨0, 0, 0, 0⟩)
def clsS (i j : Nat) : Stmt := match topS i with
  | .ClassDef _ _ _ b _ _ _ _ _ _ _ => b.getD j (.Pass ⟨0, 0, 0, 0⟩)
  | _ => .Pass ⟨0, 0, 0, 0⟩
abbrev i_is_integer : Nat := 0
abbrev i_is_index : Nat := 1
abbrev i_is_vector : Nat := 2
abbrev i_is_row : Nat := 3
abbrev i_are_rows : Nat := 4
abbrev i_are_integers : Nat := 5
abbrev i_is_stand : Nat := 6
abbrev i_check_stand : Nat := 7
abbrev i_is_message : Nat := 8
abbrev i_bad_message : Nat := 9
abbrev i_check_messages : Nat := 10
abbrev i_are_kinds : Nat := 11
abbrev i_are_burdens : Nat := 12
abbrev i_are_shows : Nat := 13
abbrev i_copied : Nat := 14
abbrev i_dot : Nat := 15
abbrev i_is_statement : Nat := 16
abbrev i_is_block : Nat := 17
abbrev i_are_blocks : Nat := 18
abbrev i_copied_statement : Nat := 19
abbrev i_Scriptu_initu : Nat := 20
abbrev i_script_hear : Nat := 21
abbrev i_l_pool : Nat := 22
abbrev i_l_draw : Nat := 23
abbrev i_l_is_integer : Nat := 24
abbrev i_l_number : Nat := 25
abbrev i_l_statement : Nat := 26
abbrev i_l_script_parts : Nat := 27
abbrev i_l_blocks_copy : Nat := 28
abbrev i_l_copied : Nat := 29
abbrev i_l_script : Nat := 30
abbrev i_l_script_message : Nat := 31
abbrev i_l_script_stand : Nat := 32
abbrev i_l_bad_stand : Nat := 33
abbrev i_l_bad_message : Nat := 34
abbrev i_l_bad_statement : Nat := 35
abbrev i_l_bad_blocks : Nat := 36
abbrev i_l_bad_shows : Nat := 37
abbrev i_l_asked : Nat := 38
abbrev i_law : Nat := 39
abbrev s_is_integer : Stmt := topS 7
def b_is_integer : Ss := (.cons (.ret (.and (.cons (.isi (.var 0) (.bi "int")) (.cons (.not (.isi (.var 0) (.bi "bool"))) .nil)))) .nil)
def f_is_integer : Fn := ⟨((Str.ofString "is_integer"), none), [(Str.ofString "value")], [(Str.ofString "value")], [], b_is_integer⟩
abbrev s_is_index : Stmt := topS 8
def b_is_index : Ss := (.cons (.ret (.and (.cons (.call i_is_integer (.cons (.val (.var 0)) .nil)) (.cons (.chn .le .lt (.cst (.int 0)) (.var 0) (.var 1)) .nil)))) .nil)
def f_is_index : Fn := ⟨((Str.ofString "is_index"), none), [(Str.ofString "value"), (Str.ofString "many")], [(Str.ofString "value"), (Str.ofString "many")], [], b_is_index⟩
abbrev s_is_vector : Stmt := topS 9
def p_is_vector_l1 : Ss := (.cons (.ite (.not (.call i_is_integer (.cons (.val (.var 2)) .nil))) (.cons (.ret (.cst (.bl false))) .nil) .nil) .nil)
def b_is_vector : Ss := (.cons (.ite (.or (.cons (.not (.isi (.var 0) (.bi "list"))) (.cons (.cmp .ne (.blt .len (.cons (.var 0) .nil)) (.var 1)) .nil))) (.cons (.ret (.cst (.bl false))) .nil) .nil) (.cons (.loop (.name 2) (.seq (.var 0)) p_is_vector_l1) (.cons (.ret (.cst (.bl true))) .nil)))
def f_is_vector : Fn := ⟨((Str.ofString "is_vector"), none), [(Str.ofString "value"), (Str.ofString "width")], [(Str.ofString "value"), (Str.ofString "width"), (Str.ofString "entry")], [], b_is_vector⟩
abbrev s_is_row : Stmt := topS 10
def p_is_row_l1 : Ss := (.cons (.ite (.not (.chn .le .le (.neg (.cst (.int 9))) (.var 2) (.cst (.int 9)))) (.cons (.ret (.cst (.bl false))) .nil) .nil) .nil)
def b_is_row : Ss := (.cons (.ite (.not (.call i_is_vector (.cons (.val (.var 0)) (.cons (.val (.var 1)) .nil)))) (.cons (.ret (.cst (.bl false))) .nil) .nil) (.cons (.loop (.name 2) (.seq (.var 0)) p_is_row_l1) (.cons (.ret (.cst (.bl true))) .nil)))
def f_is_row : Fn := ⟨((Str.ofString "is_row"), none), [(Str.ofString "value"), (Str.ofString "width")], [(Str.ofString "value"), (Str.ofString "width"), (Str.ofString "entry")], [], b_is_row⟩
abbrev s_are_rows : Stmt := topS 11
def p_are_rows_l1 : Ss := (.cons (.ite (.not (.call i_is_row (.cons (.val (.var 3)) (.cons (.val (.var 2)) .nil)))) (.cons (.ret (.cst (.bl false))) .nil) .nil) .nil)
def b_are_rows : Ss := (.cons (.ite (.or (.cons (.not (.isi (.var 0) (.bi "list"))) (.cons (.cmp .ne (.blt .len (.cons (.var 0) .nil)) (.var 1)) .nil))) (.cons (.ret (.cst (.bl false))) .nil) .nil) (.cons (.loop (.name 3) (.seq (.var 0)) p_are_rows_l1) (.cons (.ret (.cst (.bl true))) .nil)))
def f_are_rows : Fn := ⟨((Str.ofString "are_rows"), none), [(Str.ofString "value"), (Str.ofString "many"), (Str.ofString "width")], [(Str.ofString "value"), (Str.ofString "many"), (Str.ofString "width"), (Str.ofString "row")], [], b_are_rows⟩
abbrev s_are_integers : Stmt := topS 12
def p_are_integers_l1 : Ss := (.cons (.ite (.not (.call i_is_integer (.cons (.val (.var 2)) .nil))) (.cons (.ret (.cst (.bl false))) .nil) .nil) .nil)
def b_are_integers : Ss := (.cons (.ite (.or (.cons (.not (.isi (.var 0) (.bi "tuple"))) (.cons (.cmp .ne (.blt .len (.cons (.var 0) .nil)) (.var 1)) .nil))) (.cons (.ret (.cst (.bl false))) .nil) .nil) (.cons (.loop (.name 2) (.seq (.var 0)) p_are_integers_l1) (.cons (.ret (.cst (.bl true))) .nil)))
def f_are_integers : Fn := ⟨((Str.ofString "are_integers"), none), [(Str.ofString "value"), (Str.ofString "many")], [(Str.ofString "value"), (Str.ofString "many"), (Str.ofString "entry")], [], b_are_integers⟩
abbrev s_is_stand : Stmt := topS 13
def b_is_stand : Ss := (.cons (.ite (.or (.cons (.not (.isi (.var 0) (.bi "tuple"))) (.cons (.cmp .ne (.blt .len (.cons (.var 0) .nil)) (.cst (.int 2))) .nil))) (.cons (.ret (.cst (.bl false))) .nil) .nil) (.cons (.ret (.and (.cons (.call i_is_index (.cons (.val (.shr (.idx (.var 0) (.cst (.int 0))))) (.cons (.val (.var 1)) .nil))) (.cons (.call i_are_integers (.cons (.val (.shr (.idx (.var 0) (.cst (.int 1))))) (.cons (.val (.var 2)) .nil))) .nil)))) .nil))
def f_is_stand : Fn := ⟨((Str.ofString "is_stand"), none), [(Str.ofString "value"), (Str.ofString "controls"), (Str.ofString "cells")], [(Str.ofString "value"), (Str.ofString "controls"), (Str.ofString "cells")], [], b_is_stand⟩
abbrev s_check_stand : Stmt := topS 14
def b_check_stand : Ss := (.cons (.ite (.not (.call i_is_stand (.cons (.val (.var 0)) (.cons (.val (.var 1)) (.cons (.val (.var 2)) .nil))))) (.cons (.rse0 (Str.ofString "NoStand")) .nil) .nil) .nil)
def f_check_stand : Fn := ⟨((Str.ofString "check_stand"), none), [(Str.ofString "value"), (Str.ofString "controls"), (Str.ofString "cells")], [(Str.ofString "value"), (Str.ofString "controls"), (Str.ofString "cells")], [], b_check_stand⟩
abbrev s_is_message : Stmt := topS 15
def b_is_message : Ss := (.cons (.ite (.or (.cons (.not (.isi (.var 0) (.bi "tuple"))) (.cons (.cmp .ne (.blt .len (.cons (.var 0) .nil)) (.cst (.int 2))) .nil))) (.cons (.ret (.cst (.bl false))) .nil) .nil) (.cons (.ret (.and (.cons (.call i_is_index (.cons (.val (.shr (.idx (.var 0) (.cst (.int 0))))) (.cons (.val (.blt .len (.cons (.var 1) .nil))) .nil))) (.cons (.call i_are_integers (.cons (.val (.shr (.idx (.var 0) (.cst (.int 1))))) (.cons (.val (.shr (.idx (.var 1) (.idx (.var 0) (.cst (.int 0)))))) .nil))) .nil)))) .nil))
def f_is_message : Fn := ⟨((Str.ofString "is_message"), none), [(Str.ofString "value"), (Str.ofString "burdens")], [(Str.ofString "value"), (Str.ofString "burdens")], [], b_is_message⟩
abbrev s_bad_message : Stmt := topS 16
def p_bad_message_l1 : Ss := (.cons (.ite (.not (.call i_is_message (.cons (.val (.var 3)) (.cons (.val (.var 1)) .nil)))) (.cons (.ret (.mov 2)) .nil) .nil) .nil)
def b_bad_message : Ss := (.cons (.ite (.not (.isi (.var 0) (.bi "list"))) (.cons (.ret (.neg (.cst (.int 1)))) .nil) .nil) (.cons (.loop (.names [2, 3]) (.enum (.var 0)) p_bad_message_l1) (.cons (.ret (.cst .non)) .nil)))
def f_bad_message : Fn := ⟨((Str.ofString "bad_message"), none), [(Str.ofString "value"), (Str.ofString "burdens")], [(Str.ofString "value"), (Str.ofString "burdens"), (Str.ofString "index"), (Str.ofString "item")], [], b_bad_message⟩
abbrev s_check_messages : Stmt := topS 17
def b_check_messages : Ss := (.cons (.set (.name 2) (.shr (.call i_bad_message (.cons (.val (.shr (.mov 0))) (.cons (.val (.shr (.mov 1))) .nil))))) (.cons (.ite (.cmp .notN (.var 2) (.cst .non)) (.cons (.rse1 (Str.ofString "NoMessage") (Str.ofString "index") (.shr (.mov 2))) .nil) .nil) .nil))
def f_check_messages : Fn := ⟨((Str.ofString "check_messages"), none), [(Str.ofString "value"), (Str.ofString "burdens")], [(Str.ofString "value"), (Str.ofString "burdens"), (Str.ofString "index")], [], b_check_messages⟩
abbrev s_are_kinds : Stmt := topS 18
def p_are_kinds_l1 : Ss := (.cons (.ite (.not (.call i_is_index (.cons (.val (.var 2)) (.cons (.val (.var 1)) .nil)))) (.cons (.ret (.cst (.bl false))) .nil) .nil) .nil)
def b_are_kinds : Ss := (.cons (.ite (.not (.isi (.var 0) (.bi "list"))) (.cons (.ret (.cst (.bl false))) .nil) .nil) (.cons (.loop (.name 2) (.seq (.var 0)) p_are_kinds_l1) (.cons (.ret (.cst (.bl true))) .nil)))
def f_are_kinds : Fn := ⟨((Str.ofString "are_kinds"), none), [(Str.ofString "value"), (Str.ofString "kinds")], [(Str.ofString "value"), (Str.ofString "kinds"), (Str.ofString "item")], [], b_are_kinds⟩
abbrev s_are_burdens : Stmt := topS 19
def b_are_burdens : Ss := (.cons (.ret (.and (.cons (.isi (.var 0) (.bi "list")) (.cons (.chn .le .le (.cst (.int 1)) (.blt .len (.cons (.var 0) .nil)) (.cst (.int 3))) (.cons (.call i_are_kinds (.cons (.val (.var 0)) (.cons (.val (.cst (.int 3))) .nil))) .nil))))) .nil)
def f_are_burdens : Fn := ⟨((Str.ofString "are_burdens"), none), [(Str.ofString "value")], [(Str.ofString "value")], [], b_are_burdens⟩
abbrev s_are_shows : Stmt := topS 20
def p_are_shows_l1 : Ss := (.cons (.ite (.or (.cons (.not (.isi (.var 3) (.bi "list"))) (.cons (.cmp .gt (.blt .len (.cons (.var 3) .nil)) (.cst (.int 2))) (.cons (.not (.call i_are_rows (.cons (.val (.var 3)) (.cons (.val (.blt .len (.cons (.var 3) .nil))) (.cons (.val (.shr (.bin .add (.cst (.int 1)) (.var 2)))) .nil))))) .nil)))) (.cons (.ret (.cst (.bl false))) .nil) .nil) .nil)
def b_are_shows : Ss := (.cons (.ite (.or (.cons (.not (.isi (.var 0) (.bi "list"))) (.cons (.cmp .ne (.blt .len (.cons (.var 0) .nil)) (.var 1)) .nil))) (.cons (.ret (.cst (.bl false))) .nil) .nil) (.cons (.loop (.name 3) (.seq (.var 0)) p_are_shows_l1) (.cons (.ret (.cst (.bl true))) .nil)))
def f_are_shows : Fn := ⟨((Str.ofString "are_shows"), none), [(Str.ofString "value"), (Str.ofString "controls"), (Str.ofString "cells")], [(Str.ofString "value"), (Str.ofString "controls"), (Str.ofString "cells"), (Str.ofString "rows")], [], b_are_shows⟩
abbrev s_copied : Stmt := topS 21
def p_copied_c1 : E := (.blt .list (.cons (.var 1) .nil))
def b_copied : Ss := (.cons (.ret (.comp p_copied_c1 (.name 1) (.seq (.var 0)) .no)) .nil)
def f_copied : Fn := ⟨((Str.ofString "copied"), none), [(Str.ofString "rows")], [(Str.ofString "rows"), (Str.ofString "row")], [], b_copied⟩
abbrev s_dot : Stmt := topS 23
def p_dot_c1 : E := (.bin .mul (.var 2) (.var 3))
def b_dot : Ss := (.cons (.ret (.blt .sum (.cons (.comp p_dot_c1 (.names [2, 3]) (.zip (.var 0) (.var 1)) .no) .nil))) .nil)
def f_dot : Fn := ⟨((Str.ofString "dot"), none), [(Str.ofString "form"), (Str.ofString "vector")], [(Str.ofString "form"), (Str.ofString "vector"), (Str.ofString "one"), (Str.ofString "other")], [], b_dot⟩
abbrev s_is_statement : Stmt := topS 25
def b_is_statement : Ss := (.cons (.ite (.or (.cons (.not (.isi (.var 0) (.bi "tuple"))) (.cons (.cmp .eq (.blt .len (.cons (.var 0) .nil)) (.cst (.int 0))) (.cons (.not (.isi (.idx (.var 0) (.cst (.int 0))) (.bi "str"))) .nil)))) (.cons (.ret (.cst (.bl false))) .nil) .nil) (.cons (.ite (.cmp .eq (.idx (.var 0) (.cst (.int 0))) (.cst (.str (Str.ofString "go")))) (.cons (.ret (.and (.cons (.cmp .eq (.blt .len (.cons (.var 0) .nil)) (.cst (.int 2))) (.cons (.call i_is_index (.cons (.val (.shr (.idx (.var 0) (.cst (.int 1))))) (.cons (.val (.var 1)) .nil))) .nil)))) .nil) .nil) (.cons (.ite (.or (.cons (.cmp .ne (.blt .len (.cons (.var 0) .nil)) (.cst (.int 3))) (.cons (.not (.call i_is_index (.cons (.val (.shr (.idx (.var 0) (.cst (.int 1))))) (.cons (.val (.var 2)) .nil)))) .nil))) (.cons (.ret (.cst (.bl false))) .nil) .nil) (.cons (.ite (.cmp .eq (.idx (.var 0) (.cst (.int 0))) (.cst (.str (Str.ofString "swap")))) (.cons (.ret (.call i_is_index (.cons (.val (.shr (.idx (.mov 0) (.cst (.int 2))))) (.cons (.val (.shr (.mov 2))) .nil)))) .nil) .nil) (.cons (.ret (.and (.cons (.cmp .mem (.idx (.var 0) (.cst (.int 0))) (.tup (.cons (.cst (.str (Str.ofString "set"))) (.cons (.cst (.str (Str.ofString "add"))) .nil)))) (.cons (.call i_is_row (.cons (.val (.shr (.idx (.var 0) (.cst (.int 2))))) (.cons (.val (.shr (.bin .add (.bin .add (.cst (.int 1)) (.var 2)) (.var 3)))) .nil))) .nil)))) .nil)))))
def f_is_statement : Fn := ⟨((Str.ofString "is_statement"), none), [(Str.ofString "value"), (Str.ofString "controls"), (Str.ofString "cells"), (Str.ofString "burden")], [(Str.ofString "value"), (Str.ofString "controls"), (Str.ofString "cells"), (Str.ofString "burden")], [], b_is_statement⟩
abbrev s_is_block : Stmt := topS 26
def p_is_block_l1 : Ss := (.cons (.ite (.not (.call i_is_statement (.cons (.val (.var 4)) (.cons (.val (.var 1)) (.cons (.val (.var 2)) (.cons (.val (.var 3)) .nil)))))) (.cons (.ret (.cst (.bl false))) .nil) .nil) .nil)
def b_is_block : Ss := (.cons (.ite (.or (.cons (.not (.isi (.var 0) (.bi "list"))) (.cons (.cmp .gt (.blt .len (.cons (.var 0) .nil)) (.cst (.int 6))) .nil))) (.cons (.ret (.cst (.bl false))) .nil) .nil) (.cons (.loop (.name 4) (.seq (.var 0)) p_is_block_l1) (.cons (.ret (.cst (.bl true))) .nil)))
def f_is_block : Fn := ⟨((Str.ofString "is_block"), none), [(Str.ofString "value"), (Str.ofString "controls"), (Str.ofString "cells"), (Str.ofString "burden")], [(Str.ofString "value"), (Str.ofString "controls"), (Str.ofString "cells"), (Str.ofString "burden"), (Str.ofString "statement")], [], b_is_block⟩
abbrev s_are_blocks : Stmt := topS 27
def p_are_blocks_l2 : Ss := (.cons (.ite (.not (.call i_is_block (.cons (.val (.var 5)) (.cons (.val (.blt .len (.cons (.var 0) .nil))) (.cons (.val (.var 1)) (.cons (.val (.shr (.idx (.var 2) (.var 4)))) .nil)))))) (.cons (.ret (.cst (.bl false))) .nil) .nil) .nil)
def p_are_blocks_l1 : Ss := (.cons (.ite (.or (.cons (.not (.isi (.var 3) (.bi "list"))) (.cons (.cmp .ne (.blt .len (.cons (.var 3) .nil)) (.blt .len (.cons (.var 2) .nil))) .nil))) (.cons (.ret (.cst (.bl false))) .nil) .nil) (.cons (.loop (.names [4, 5]) (.enum (.var 3)) p_are_blocks_l2) .nil))
def b_are_blocks : Ss := (.cons (.ite (.or (.cons (.not (.isi (.var 0) (.bi "list"))) (.cons (.not (.chn .le .le (.cst (.int 1)) (.blt .len (.cons (.var 0) .nil)) (.cst (.int 3)))) .nil))) (.cons (.ret (.cst (.bl false))) .nil) .nil) (.cons (.loop (.name 3) (.seq (.var 0)) p_are_blocks_l1) (.cons (.ret (.cst (.bl true))) .nil)))
def f_are_blocks : Fn := ⟨((Str.ofString "are_blocks"), none), [(Str.ofString "value"), (Str.ofString "cells"), (Str.ofString "burdens")], [(Str.ofString "value"), (Str.ofString "cells"), (Str.ofString "burdens"), (Str.ofString "blocks"), (Str.ofString "kind"), (Str.ofString "block")], [], b_are_blocks⟩
abbrev s_copied_statement : Stmt := topS 28
def b_copied_statement : Ss := (.cons (.ite (.cmp .mem (.idx (.var 0) (.cst (.int 0))) (.tup (.cons (.cst (.str (Str.ofString "set"))) (.cons (.cst (.str (Str.ofString "add"))) .nil)))) (.cons (.ret (.tup (.cons (.idx (.var 0) (.cst (.int 0))) (.cons (.idx (.var 0) (.cst (.int 1))) (.cons (.blt .list (.cons (.idx (.var 0) (.cst (.int 2))) .nil)) .nil))))) .nil) .nil) (.cons (.ret (.blt .tuple (.cons (.blt .list (.cons (.mov 0) .nil)) .nil))) .nil))
def f_copied_statement : Fn := ⟨((Str.ofString "copied_statement"), none), [(Str.ofString "statement")], [(Str.ofString "statement")], [], b_copied_statement⟩
abbrev s_Scriptu_initu : Stmt := clsS 29 0
def p_Scriptu_initu_c1 : E := (.call i_copied (.cons (.val (.var 6)) .nil))
def p_Scriptu_initu_c4 : E := (.call i_copied_statement (.cons (.val (.var 8)) .nil))
def p_Scriptu_initu_c3 : E := (.comp p_Scriptu_initu_c4 (.name 8) (.seq (.var 7)) .no)
def p_Scriptu_initu_c2 : E := (.comp p_Scriptu_initu_c3 (.name 7) (.seq (.var 5)) .no)
def b_Scriptu_initu : Ss := (.cons (.ite (.not (.call i_are_burdens (.cons (.val (.var 1)) .nil))) (.cons (.rse1 (Str.ofString "NoScript") (Str.ofString "place") (.cst (.str (Str.ofString "burdens")))) .nil) .nil) (.cons (.ite (.or (.cons (.not (.call i_is_index (.cons (.val (.var 2)) (.cons (.val (.cst (.int 4))) .nil)))) (.cons (.cmp .eq (.var 2) (.cst (.int 0))) .nil))) (.cons (.rse1 (Str.ofString "NoScript") (Str.ofString "place") (.cst (.str (Str.ofString "cells")))) .nil) .nil) (.cons (.ite (.not (.call i_are_blocks (.cons (.val (.var 3)) (.cons (.val (.var 2)) (.cons (.val (.var 1)) .nil))))) (.cons (.rse1 (Str.ofString "NoScript") (Str.ofString "place") (.cst (.str (Str.ofString "blocks")))) .nil) .nil) (.cons (.ite (.not (.call i_are_shows (.cons (.val (.var 4)) (.cons (.val (.blt .len (.cons (.var 3) .nil))) (.cons (.val (.var 2)) .nil))))) (.cons (.rse1 (Str.ofString "NoScript") (Str.ofString "place") (.cst (.str (Str.ofString "shows")))) .nil) .nil) (.cons (.setF 0 (Str.ofString "burdens") (.blt .list (.cons (.mov 1) .nil))) (.cons (.setF 0 (Str.ofString "many") (.mov 2)) (.cons (.setF 0 (Str.ofString "blocks") (.comp p_Scriptu_initu_c2 (.name 5) (.seq (.var 3)) .no)) (.cons (.setF 0 (Str.ofString "shows") (.comp p_Scriptu_initu_c1 (.name 6) (.seq (.var 4)) .no)) .nil))))))))
def f_Scriptu_initu : Fn := ⟨((Str.ofString "Script"), some (Str.ofString "__init__")), [(Str.ofString "self"), (Str.ofString "burdens"), (Str.ofString "cells"), (Str.ofString "blocks"), (Str.ofString "shows")], [(Str.ofString "self"), (Str.ofString "burdens"), (Str.ofString "cells"), (Str.ofString "blocks"), (Str.ofString "shows"), (Str.ofString "line"), (Str.ofString "rows"), (Str.ofString "block"), (Str.ofString "one")], [0], b_Scriptu_initu⟩
abbrev s_script_hear : Stmt := topS 30
def p_script_hear_l1 : Ss := (.cons (.set (.name 6) (.shr (.idx (.var 5) (.cst (.int 0))))) (.cons (.set (.name 7) (.shr (.idx (.var 5) (.cst (.int 1))))) (.cons (.ite (.cmp .eq (.var 6) (.cst (.str (Str.ofString "go")))) (.cons (.set (.name 3) (.mov 7)) .nil) (.cons (.ite (.cmp .eq (.var 6) (.cst (.str (Str.ofString "swap")))) (.cons (.swp 4 4 (.var 7) (.idx (.var 5) (.cst (.int 2))) (.shr (.tup (.cons (.idv 4 (.idx (.var 5) (.cst (.int 2)))) (.cons (.idv 4 (.var 7)) .nil))))) .nil) (.cons (.set (.name 8) (.call i_dot (.cons (.val (.shr (.idx (.mov 5) (.cst (.int 2))))) (.cons (.val (.shr (.bor (.lst (.cons (.cst (.int 1)) (.star (.var 4) (.star (.idx (.var 2) (.cst (.int 1))) .nil))))))) .nil)))) (.cons (.ite (.cmp .eq (.var 6) (.cst (.str (Str.ofString "add")))) (.cons (.aug 8 .add (.idv 4 (.var 7))) .nil) .nil) (.cons (.setI 4 (.mov 7) (.mov 8)) .nil)))) .nil)) .nil)))
def b_script_hear : Ss := (.cons (.may .ex (.call i_check_stand (.cons (.val (.var 1)) (.cons (.val (.blt .len (.cons (.fld (.var 0) (Str.ofString "blocks")) .nil))) (.cons (.val (.shr (.fld (.var 0) (Str.ofString "many")))) .nil))))) (.cons (.may .ex (.call i_check_messages (.cons (.val (.shr (.lst (.cons (.var 2) .nil)))) (.cons (.val (.shr (.fld (.var 0) (Str.ofString "burdens")))) .nil)))) (.cons (.set (.name 3) (.idx (.var 1) (.cst (.int 0)))) (.cons (.set (.name 4) (.blt .list (.cons (.idx (.var 1) (.cst (.int 1))) .nil))) (.cons (.loop (.name 5) (.seq (.idx (.idx (.fld (.var 0) (Str.ofString "blocks")) (.idx (.var 1) (.cst (.int 0)))) (.idx (.var 2) (.cst (.int 0))))) p_script_hear_l1) (.cons (.ret (.tup (.cons (.mov 3) (.cons (.blt .tuple (.cons (.mov 4) .nil)) .nil)))) .nil))))))
def f_script_hear : Fn := ⟨((Str.ofString "script_hear"), none), [(Str.ofString "script"), (Str.ofString "stand"), (Str.ofString "message")], [(Str.ofString "script"), (Str.ofString "stand"), (Str.ofString "message"), (Str.ofString "control"), (Str.ofString "values"), (Str.ofString "statement"), (Str.ofString "word"), (Str.ofString "at"), (Str.ofString "value")], [], b_script_hear⟩
abbrev s_l_pool : Stmt := topS 32
def b_l_pool : Ss := (.cons (.set (.name 2) (.cst (.int 0))) (.cons (.ite (.cmp .lt (.var 1) (.blt .len (.cons (.var 0) .nil))) (.cons (.set (.name 2) (.shr (.idx (.mov 0) (.var 1)))) .nil) .nil) (.cons (.ite (.cmp .ge (.var 2) (.bin .pow (.cst (.int 10)) (.cst (.int 18)))) (.cons (.ret (.lst (.cons (.bin .sub (.mov 2) (.bin .pow (.cst (.int 10)) (.cst (.int 18)))) (.cons (.cst (.int 0)) (.cons (.cst (.int 0)) (.cons (.cst (.int 1)) .nil)))))) .nil) .nil) (.cons (.ret (.lst (.cons (.cst (.int 0)) (.cons (.cst (.int 0)) (.cons (.bin .mod (.blt .int (.cons (.bin .add (.mov 2) (.bin .mul (.cst (.int 104729)) (.mov 1))) .nil)) (.cst (.int 2147483647))) (.cons (.cst (.int 0)) .nil)))))) .nil))))
def f_l_pool : Fn := ⟨((Str.ofString "_law_pool"), none), [(Str.ofString "_law_script_here"), (Str.ofString "_law_place")], [(Str.ofString "_law_script_here"), (Str.ofString "_law_place"), (Str.ofString "_law_cell")], [], b_l_pool⟩
abbrev s_l_draw : Stmt := topS 33
def b_l_draw : Ss := (.cons (.ite (.cmp .eq (.idv 0 (.cst (.int 3))) (.cst (.int 1))) (.cons (.set (.name 3) (.bin .mod (.blt .int (.cons (.idv 0 (.cst (.int 0))) .nil)) (.var 1))) (.cons (.setI 0 (.cst (.int 0)) (.bin .fdiv (.blt .int (.cons (.idv 0 (.cst (.int 0))) .nil)) (.mov 1))) (.cons (.ret (.mov 3)) .nil))) .nil) (.cons (.setI 0 (.cst (.int 1)) (.bin .add (.idv 0 (.cst (.int 1))) (.cst (.int 1)))) (.cons (.set (.name 2) (.bin .mod (.bin .mul (.blt .int (.cons (.bin .add (.bin .add (.idv 0 (.cst (.int 2))) (.bin .mul (.cst (.int 7919)) (.idv 0 (.cst (.int 1))))) (.cst (.int 1))) .nil)) (.cst (.int 48271))) (.cst (.int 2147483647)))) (.cons (.set (.name 2) (.bin .mod (.bin .mul (.var 2) (.bin .add (.bin .fdiv (.var 2) (.cst (.int 1009))) (.cst (.int 69621)))) (.cst (.int 2147483647)))) (.cons (.set (.name 2) (.bin .mod (.bin .mul (.var 2) (.bin .add (.bin .fdiv (.var 2) (.cst (.int 2003))) (.cst (.int 40692)))) (.cst (.int 2147483399)))) (.cons (.ret (.bin .mod (.bin .fdiv (.mov 2) (.cst (.int 16))) (.mov 1))) .nil))))))
def f_l_draw : Fn := ⟨((Str.ofString "_law_draw"), none), [(Str.ofString "_law_pool_here"), (Str.ofString "_law_many")], [(Str.ofString "_law_pool_here"), (Str.ofString "_law_many"), (Str.ofString "_law_number_here"), (Str.ofString "_law_drawn")], [0], b_l_draw⟩
abbrev s_l_is_integer : Stmt := topS 34
def b_l_is_integer : Ss := (.cons (.ret (.and (.cons (.isi (.var 0) (.bi "int")) (.cons (.not (.isi (.var 0) (.bi "bool"))) .nil)))) .nil)
def f_l_is_integer : Fn := ⟨((Str.ofString "_law_is_integer"), none), [(Str.ofString "_law_value")], [(Str.ofString "_law_value")], [], b_l_is_integer⟩
abbrev s_l_number : Stmt := topS 35
def b_l_number : Ss := (.cons (.set (.name 1) (.shr (.call i_l_draw (.cons (.ref 0) (.cons (.val (.cst (.int 4))) .nil))))) (.cons (.set (.name 2) (.shr (.call i_l_draw (.cons (.ref 0) (.cons (.val (.cst (.int 2))) .nil))))) (.cons (.set (.name 3) (.shr (.call i_l_draw (.cons (.ref 0) (.cons (.val (.bin .pow (.cst (.int 10)) (.cst (.int 9)))) .nil))))) (.cons (.ite (.cmp .eq (.var 1) (.cst (.int 0))) (.cons (.set (.name 3) (.bin .mod (.blt .int (.cons (.var 3) .nil)) (.cst (.int 7)))) .nil) .nil) (.cons (.ite (.cmp .eq (.var 1) (.cst (.int 1))) (.cons (.set (.name 3) (.bin .mod (.blt .int (.cons (.var 3) .nil)) (.cst (.int 1000)))) .nil) .nil) (.cons (.ite (.cmp .eq (.var 1) (.cst (.int 3))) (.cons (.set (.name 3) (.shr (.bin .add (.bin .mul (.var 3) (.bin .pow (.cst (.int 10)) (.cst (.int 50)))) (.call i_l_draw (.cons (.ref 0) (.cons (.val (.bin .pow (.cst (.int 10)) (.cst (.int 9)))) .nil)))))) .nil) .nil) (.cons (.ite (.cmp .eq (.var 2) (.cst (.int 1))) (.cons (.ret (.neg (.mov 3))) .nil) .nil) (.cons (.ret (.mov 3)) .nil))))))))
def f_l_number : Fn := ⟨((Str.ofString "_law_number"), none), [(Str.ofString "_law_pool_here")], [(Str.ofString "_law_pool_here"), (Str.ofString "_law_style"), (Str.ofString "_law_minus"), (Str.ofString "_law_value")], [0], b_l_number⟩
abbrev s_l_statement : Stmt := topS 36
def p_l_statement_c1 : E := (.bin .mul (.idx (.var 9) (.var 11)) (.blt .int (.cons (.cmp .eq (.var 11) (.var 10)) .nil)))
def p_l_statement_c2 : E := (.bin .sub (.call i_l_draw (.cons (.ref 0) (.cons (.val (.shr (.bin .add (.bin .mul (.cst (.int 2)) (.var 4)) (.cst (.int 1))))) .nil))) (.var 4))
def b_l_statement : Ss := (.cons (.set (.name 5) (.shr (.call i_l_draw (.cons (.ref 0) (.cons (.val (.cst (.int 6))) .nil))))) (.cons (.set (.name 6) (.call i_l_draw (.cons (.ref 0) (.cons (.val (.var 2)) .nil)))) (.cons (.set (.name 7) (.call i_l_draw (.cons (.ref 0) (.cons (.val (.var 2)) .nil)))) (.cons (.set (.name 8) (.shr (.call i_l_draw (.cons (.ref 0) (.cons (.val (.cst (.int 2))) .nil))))) (.cons (.set (.name 9) (.comp p_l_statement_c2 (.name 11) (.rng (.bin .add (.bin .add (.cst (.int 1)) (.var 2)) (.var 3))) .no)) (.cons (.ite (.cmp .eq (.var 8) (.cst (.int 1))) (.cons (.set (.name 10) (.call i_l_draw (.cons (.ref 0) (.cons (.val (.bor (.blt .len (.cons (.var 9) .nil)))) .nil)))) (.cons (.set (.name 9) (.bor (.comp p_l_statement_c1 (.name 11) (.rng (.blt .len (.cons (.var 9) .nil))) .no))) .nil)) .nil) (.cons (.ite (.cmp .eq (.var 5) (.cst (.int 0))) (.cons (.ret (.tup (.cons (.cst (.str (Str.ofString "go"))) (.cons (.call i_l_draw (.cons (.ref 0) (.cons (.val (.shr (.mov 1))) .nil))) .nil)))) .nil) .nil) (.cons (.ite (.cmp .eq (.var 5) (.cst (.int 1))) (.cons (.ret (.tup (.cons (.cst (.str (Str.ofString "swap"))) (.cons (.mov 6) (.cons (.mov 7) .nil))))) .nil) .nil) (.cons (.ret (.tup (.cons (.idx (.lst (.cons (.cst (.str (Str.ofString "set"))) (.cons (.cst (.str (Str.ofString "add"))) .nil))) (.bin .mod (.blt .int (.cons (.mov 5) .nil)) (.cst (.int 2)))) (.cons (.mov 6) (.cons (.mov 9) .nil))))) .nil)))))))))
def f_l_statement : Fn := ⟨((Str.ofString "_law_statement"), none), [(Str.ofString "_law_pool_here"), (Str.ofString "_law_controls"), (Str.ofString "_law_cells"), (Str.ofString "_law_burden"), (Str.ofString "_law_bound")], [(Str.ofString "_law_pool_here"), (Str.ofString "_law_controls"), (Str.ofString "_law_cells"), (Str.ofString "_law_burden"), (Str.ofString "_law_bound"), (Str.ofString "_law_word"), (Str.ofString "_law_cell"), (Str.ofString "_law_other"), (Str.ofString "_law_sparse"), (Str.ofString "_law_row"), (Str.ofString "_law_at"), (Str.ofString "_law_k")], [0], b_l_statement⟩
abbrev s_l_script_parts : Stmt := topS 37
def p_l_script_parts_c3 : E := (.bin .sub (.call i_l_draw (.cons (.ref 0) (.cons (.val (.cst (.int 19))) .nil))) (.cst (.int 9)))
def p_l_script_parts_c2 : E := (.comp p_l_script_parts_c3 (.name 15) (.rng (.bin .add (.cst (.int 1)) (.var 4))) .no)
def p_l_script_parts_c5 : E := (.call i_l_statement (.cons (.ref 0) (.cons (.val (.var 3)) (.cons (.val (.var 4)) (.cons (.val (.var 11)) (.cons (.val (.var 1)) .nil))))))
def p_l_script_parts_l4 : Ss := (.cons (.set (.name 12) (.shr (.call i_l_draw (.cons (.ref 0) (.cons (.val (.var 5)) .nil))))) (.cons (.app 10 (.comp p_l_script_parts_c5 (.name 15) (.rng (.var 12)) .no)) .nil))
def p_l_script_parts_l1 : Ss := (.cons (.set (.name 10) (.lst .nil)) (.cons (.loop (.name 11) (.seq (.var 6)) p_l_script_parts_l4) (.cons (.app 7 (.mov 10)) (.cons (.set (.name 12) (.shr (.call i_l_draw (.cons (.ref 0) (.cons (.val (.cst (.int 3))) .nil))))) (.cons (.app 8 (.comp p_l_script_parts_c2 (.name 14) (.rng (.var 12)) .no)) .nil)))))
def p_l_script_parts_c6 : E := (.call i_l_draw (.cons (.ref 0) (.cons (.val (.cst (.int 3))) .nil)))
def b_l_script_parts : Ss := (.cons (.set (.name 1) (.shr (.idx (.lst (.cons (.cst (.int 1)) (.cons (.cst (.int 2)) (.cons (.cst (.int 9)) .nil)))) (.call i_l_draw (.cons (.ref 0) (.cons (.val (.cst (.int 3))) .nil)))))) (.cons (.set (.name 2) (.shr (.bin .add (.cst (.int 1)) (.call i_l_draw (.cons (.ref 0) (.cons (.val (.cst (.int 3))) .nil)))))) (.cons (.set (.name 3) (.shr (.bin .add (.cst (.int 1)) (.call i_l_draw (.cons (.ref 0) (.cons (.val (.cst (.int 3))) .nil)))))) (.cons (.set (.name 4) (.shr (.bin .add (.cst (.int 1)) (.call i_l_draw (.cons (.ref 0) (.cons (.val (.cst (.int 3))) .nil)))))) (.cons (.set (.name 5) (.shr (.idx (.lst (.cons (.cst (.int 3)) (.cons (.cst (.int 7)) .nil))) (.call i_l_draw (.cons (.ref 0) (.cons (.val (.cst (.int 2))) .nil)))))) (.cons (.set (.name 6) (.shr (.comp p_l_script_parts_c6 (.name 13) (.rng (.var 2)) .no))) (.cons (.set (.name 7) (.lst .nil)) (.cons (.set (.name 8) (.lst .nil)) (.cons (.loop (.name 9) (.rng (.var 3)) p_l_script_parts_l1) (.cons (.ret (.lst (.cons (.mov 6) (.cons (.mov 4) (.cons (.mov 7) (.cons (.mov 8) .nil)))))) .nil))))))))))
def f_l_script_parts : Fn := ⟨((Str.ofString "_law_script_parts"), none), [(Str.ofString "_law_pool_here")], [(Str.ofString "_law_pool_here"), (Str.ofString "_law_bound"), (Str.ofString "_law_kinds"), (Str.ofString "_law_controls"), (Str.ofString "_law_cells"), (Str.ofString "_law_most"), (Str.ofString "_law_burdens"), (Str.ofString "_law_blocks"), (Str.ofString "_law_shows"), (Str.ofString "_law_control"), (Str.ofString "_law_line"), (Str.ofString "_law_burden"), (Str.ofString "_law_many"), (Str.ofString "_law_kind"), (Str.ofString "_law_at"), (Str.ofString "_law_k")], [0], b_l_script_parts⟩
abbrev s_l_blocks_copy : Stmt := topS 38
def p_l_blocks_copy_c3 : E := (.call i_l_copied (.cons (.val (.var 4)) .nil))
def p_l_blocks_copy_c2 : E := (.comp p_l_blocks_copy_c3 (.name 4) (.seq (.var 3)) .no)
def p_l_blocks_copy_l1 : Ss := (.cons (.app 1 (.comp p_l_blocks_copy_c2 (.name 3) (.seq (.var 2)) .no)) .nil)
def b_l_blocks_copy : Ss := (.cons (.set (.name 1) (.lst .nil)) (.cons (.loop (.name 2) (.seq (.var 0)) p_l_blocks_copy_l1) (.cons (.ret (.mov 1)) .nil)))
def f_l_blocks_copy : Fn := ⟨((Str.ofString "_law_blocks_copy"), none), [(Str.ofString "_law_blocks")], [(Str.ofString "_law_blocks"), (Str.ofString "_law_copy"), (Str.ofString "_law_line"), (Str.ofString "_law_block"), (Str.ofString "_law_one")], [], b_l_blocks_copy⟩
abbrev s_l_copied : Stmt := topS 39
def b_l_copied : Ss := (.cons (.ite (.or (.cons (.cmp .eq (.idx (.var 0) (.cst (.int 0))) (.cst (.str (Str.ofString "set")))) (.cons (.cmp .eq (.idx (.var 0) (.cst (.int 0))) (.cst (.str (Str.ofString "add")))) .nil))) (.cons (.ret (.tup (.cons (.idx (.var 0) (.cst (.int 0))) (.cons (.idx (.var 0) (.cst (.int 1))) (.cons (.blt .list (.cons (.idx (.var 0) (.cst (.int 2))) .nil)) .nil))))) .nil) .nil) (.cons (.ret (.mov 0)) .nil))
def f_l_copied : Fn := ⟨((Str.ofString "_law_copied"), none), [(Str.ofString "_law_one")], [(Str.ofString "_law_one")], [], b_l_copied⟩
abbrev s_l_script : Stmt := topS 40
def p_l_script_c2 : E := (.blt .list (.cons (.var 3) .nil))
def p_l_script_c1 : E := (.comp p_l_script_c2 (.name 3) (.seq (.var 2)) .no)
def b_l_script : Ss := (.cons (.set (.name 1) (.comp p_l_script_c1 (.name 2) (.seq (.idx (.var 0) (.cst (.int 3)))) .no)) (.cons (.may .ret (.make (Str.ofString "Script") i_Scriptu_initu (.cons (.val (.shr (.blt .list (.cons (.idx (.var 0) (.cst (.int 0))) .nil)))) (.cons (.val (.shr (.idx (.var 0) (.cst (.int 1))))) (.cons (.val (.shr (.call i_l_blocks_copy (.cons (.val (.shr (.idx (.var 0) (.cst (.int 2))))) .nil)))) (.cons (.val (.shr (.mov 1))) .nil)))))) .nil))
def f_l_script : Fn := ⟨((Str.ofString "_law_script"), none), [(Str.ofString "_law_parts")], [(Str.ofString "_law_parts"), (Str.ofString "_law_shows"), (Str.ofString "_law_rows"), (Str.ofString "_law_row")], [], b_l_script⟩
abbrev s_l_script_message : Stmt := topS 41
def p_l_script_message_c1 : E := (.call i_l_number (.cons (.ref 0) .nil))
def b_l_script_message : Ss := (.cons (.set (.name 2) (.shr (.call i_l_draw (.cons (.ref 0) (.cons (.val (.blt .len (.cons (.idx (.var 1) (.cst (.int 0))) .nil))) .nil))))) (.cons (.ret (.tup (.cons (.var 2) (.cons (.blt .tuple (.cons (.comp p_l_script_message_c1 (.name 3) (.rng (.idx (.idx (.var 1) (.cst (.int 0))) (.var 2))) .no) .nil)) .nil)))) .nil))
def f_l_script_message : Fn := ⟨((Str.ofString "_law_script_message"), none), [(Str.ofString "_law_pool_here"), (Str.ofString "_law_parts")], [(Str.ofString "_law_pool_here"), (Str.ofString "_law_parts"), (Str.ofString "_law_kind"), (Str.ofString "_law_k")], [0], b_l_script_message⟩
abbrev s_l_script_stand : Stmt := topS 42
def p_l_script_stand_c1 : E := (.call i_l_number (.cons (.ref 0) .nil))
def b_l_script_stand : Ss := (.cons (.set (.name 2) (.call i_l_draw (.cons (.ref 0) (.cons (.val (.blt .len (.cons (.idx (.var 1) (.cst (.int 2))) .nil))) .nil)))) (.cons (.ret (.tup (.cons (.mov 2) (.cons (.blt .tuple (.cons (.comp p_l_script_stand_c1 (.name 3) (.rng (.idx (.var 1) (.cst (.int 1)))) .no) .nil)) .nil)))) .nil))
def f_l_script_stand : Fn := ⟨((Str.ofString "_law_script_stand"), none), [(Str.ofString "_law_pool_here"), (Str.ofString "_law_parts")], [(Str.ofString "_law_pool_here"), (Str.ofString "_law_parts"), (Str.ofString "_law_control"), (Str.ofString "_law_cell")], [0], b_l_script_stand⟩
abbrev s_l_bad_stand : Stmt := topS 43
def b_l_bad_stand : Ss := (.cons (.set (.name 3) (.shr (.call i_l_draw (.cons (.ref 1) (.cons (.val (.cst (.int 7))) .nil))))) (.cons (.set (.name 4) (.shr (.call i_l_draw (.cons (.ref 1) (.cons (.val (.blt .len (.cons (.idx (.var 0) (.cst (.int 1))) .nil))) .nil))))) (.cons (.set (.name 5) (.call i_l_draw (.cons (.ref 1) (.cons (.val (.cst (.int 3))) .nil)))) (.cons (.set (.name 6) (.shr (.blt .list (.cons (.idx (.var 0) (.cst (.int 1))) .nil)))) (.cons (.ite (.cmp .eq (.var 3) (.cst (.int 0))) (.cons (.ret (.idx (.lst (.cons (.blt .list (.cons (.var 0) .nil)) (.cons (.bin .add (.var 0) (.tup (.cons (.cst (.int 0)) .nil))) (.cons (.cst .non) .nil)))) (.mov 5))) .nil) .nil) (.cons (.ite (.cmp .eq (.var 3) (.cst (.int 1))) (.cons (.ret (.tup (.cons (.idx (.lst (.cons (.mov 2) (.cons (.neg (.cst (.int 1))) (.cons (.cst (.bl true)) .nil)))) (.mov 5)) (.cons (.idx (.mov 0) (.cst (.int 1))) .nil)))) .nil) .nil) (.cons (.ite (.cmp .eq (.var 3) (.cst (.int 2))) (.cons (.ret (.tup (.cons (.idx (.mov 0) (.cst (.int 0))) (.cons (.idx (.lst (.cons (.var 6) (.cons (.blt .tuple (.cons (.slc (.var 6) .no (.yes (.neg (.cst (.int 1))))) .nil)) (.cons (.blt .tuple (.cons (.bin .add (.var 6) (.lst (.cons (.cst (.int 0)) .nil))) .nil)) .nil)))) (.mov 5)) .nil)))) .nil) .nil) (.cons (.ite (.cmp .eq (.var 3) (.cst (.int 3))) (.cons (.ret (.tup (.cons (.cst (.str (Str.ofString "0"))) (.cons (.idx (.mov 0) (.cst (.int 1))) .nil)))) .nil) .nil) (.cons (.ret (.tup (.cons (.idx (.mov 0) (.cst (.int 0))) (.cons (.blt .tuple (.cons (.bin .add (.bin .add (.slc (.var 6) .no (.yes (.var 4))) (.lst (.cons (.idx (.lst (.cons (.cst (.bl true)) (.cons (.cst .non) (.cons (.cst (.str (Str.ofString "1"))) .nil)))) (.mov 5)) .nil))) (.slc (.var 6) (.yes (.bin .add (.var 4) (.cst (.int 1)))) .no)) .nil)) .nil)))) .nil)))))))))
def f_l_bad_stand : Fn := ⟨((Str.ofString "_law_bad_stand"), none), [(Str.ofString "_law_stand"), (Str.ofString "_law_pool_here"), (Str.ofString "_law_controls")], [(Str.ofString "_law_stand"), (Str.ofString "_law_pool_here"), (Str.ofString "_law_controls"), (Str.ofString "_law_deed"), (Str.ofString "_law_at"), (Str.ofString "_law_pick"), (Str.ofString "_law_cells")], [1], b_l_bad_stand⟩
abbrev s_l_bad_message : Stmt := topS 44
def b_l_bad_message : Ss := (.cons (.set (.name 3) (.shr (.call i_l_draw (.cons (.ref 1) (.cons (.val (.cst (.int 6))) .nil))))) (.cons (.set (.name 4) (.call i_l_draw (.cons (.ref 1) (.cons (.val (.cst (.int 3))) .nil)))) (.cons (.set (.name 5) (.shr (.blt .list (.cons (.idx (.var 0) (.cst (.int 1))) .nil)))) (.cons (.ite (.cmp .eq (.var 3) (.cst (.int 0))) (.cons (.ret (.idx (.lst (.cons (.blt .list (.cons (.var 0) .nil)) (.cons (.bin .add (.var 0) (.tup (.cons (.cst (.int 0)) .nil))) (.cons (.cst .non) .nil)))) (.mov 4))) .nil) .nil) (.cons (.ite (.cmp .eq (.var 3) (.cst (.int 1))) (.cons (.ret (.tup (.cons (.idx (.lst (.cons (.mov 2) (.cons (.neg (.cst (.int 1))) (.cons (.cst (.bl true)) .nil)))) (.mov 4)) (.cons (.idx (.mov 0) (.cst (.int 1))) .nil)))) .nil) .nil) (.cons (.ite (.or (.cons (.cmp .eq (.var 3) (.cst (.int 2))) (.cons (.cmp .eq (.blt .len (.cons (.var 5) .nil)) (.cst (.int 0))) .nil))) (.cons (.ret (.tup (.cons (.idx (.mov 0) (.cst (.int 0))) (.cons (.idx (.lst (.cons (.var 5) (.cons (.blt .tuple (.cons (.bin .add (.var 5) (.lst (.cons (.cst (.int 0)) .nil))) .nil)) (.cons (.blt .tuple (.cons (.bin .add (.var 5) (.lst (.cons (.cst (.bl true)) .nil))) .nil)) .nil)))) (.mov 4)) .nil)))) .nil) .nil) (.cons (.set (.name 6) (.shr (.call i_l_draw (.cons (.ref 1) (.cons (.val (.blt .len (.cons (.var 5) .nil))) .nil))))) (.cons (.ite (.cmp .eq (.var 3) (.cst (.int 3))) (.cons (.ret (.tup (.cons (.idx (.mov 0) (.cst (.int 0))) (.cons (.blt .tuple (.cons (.bin .add (.slc (.var 5) .no (.yes (.var 6))) (.slc (.var 5) (.yes (.bin .add (.var 6) (.cst (.int 1)))) .no)) .nil)) .nil)))) .nil) .nil) (.cons (.ret (.tup (.cons (.idx (.mov 0) (.cst (.int 0))) (.cons (.blt .tuple (.cons (.bin .add (.bin .add (.slc (.var 5) .no (.yes (.var 6))) (.lst (.cons (.idx (.lst (.cons (.cst (.bl false)) (.cons (.cst .non) (.cons (.cst (.str (Str.ofString "7"))) .nil)))) (.mov 4)) .nil))) (.slc (.var 5) (.yes (.bin .add (.var 6) (.cst (.int 1)))) .no)) .nil)) .nil)))) .nil)))))))))
def f_l_bad_message : Fn := ⟨((Str.ofString "_law_bad_message"), none), [(Str.ofString "_law_message"), (Str.ofString "_law_pool_here"), (Str.ofString "_law_kinds")], [(Str.ofString "_law_message"), (Str.ofString "_law_pool_here"), (Str.ofString "_law_kinds"), (Str.ofString "_law_deed"), (Str.ofString "_law_pick"), (Str.ofString "_law_numbers"), (Str.ofString "_law_at")], [1], b_l_bad_message⟩
abbrev s_l_bad_statement : Stmt := topS 45
def b_l_bad_statement : Ss := (.cons (.set (.name 4) (.shr (.call i_l_draw (.cons (.ref 3) (.cons (.val (.cst (.int 7))) .nil))))) (.cons (.set (.name 5) (.call i_l_draw (.cons (.ref 3) (.cons (.val (.cst (.int 3))) .nil)))) (.cons (.set (.name 6) (.shr (.call i_l_draw (.cons (.ref 3) (.cons (.val (.shr (.bin .add (.bin .add (.cst (.int 1)) (.var 1)) (.var 2)))) .nil))))) (.cons (.set (.name 7) (.idx (.lst (.cons (.cst (.str (Str.ofString "set"))) (.cons (.cst (.str (Str.ofString "add"))) .nil))) (.call i_l_draw (.cons (.ref 3) (.cons (.val (.cst (.int 2))) .nil))))) (.cons (.set (.name 8) (.shr (.bin .mul (.lst (.cons (.cst (.int 0)) .nil)) (.bin .add (.bin .add (.cst (.int 1)) (.var 1)) (.mov 2))))) (.cons (.ite (.cmp .eq (.var 4) (.cst (.int 0))) (.cons (.ret (.tup (.cons (.cst (.str (Str.ofString "go"))) (.cons (.idx (.lst (.cons (.mov 0) (.cons (.cst (.bl true)) (.cons (.neg (.cst (.int 1))) .nil)))) (.mov 5)) .nil)))) .nil) .nil) (.cons (.ite (.cmp .eq (.var 4) (.cst (.int 1))) (.cons (.ret (.tup (.cons (.cst (.str (Str.ofString "swap"))) (.cons (.cst (.int 0)) (.cons (.idx (.lst (.cons (.mov 1) (.cons (.cst (.bl false)) (.cons (.cst .non) .nil)))) (.mov 5)) .nil))))) .nil) .nil) (.cons (.ite (.cmp .eq (.var 4) (.cst (.int 2))) (.cons (.ret (.tup (.cons (.mov 7) (.cons (.idx (.lst (.cons (.mov 1) (.cons (.neg (.cst (.int 1))) (.cons (.cst (.bl true)) .nil)))) (.mov 5)) (.cons (.mov 8) .nil))))) .nil) .nil) (.cons (.ite (.cmp .eq (.var 4) (.cst (.int 3))) (.cons (.ret (.tup (.cons (.mov 7) (.cons (.cst (.int 0)) (.cons (.idx (.lst (.cons (.bin .add (.var 8) (.lst (.cons (.cst (.int 0)) .nil))) (.cons (.slc (.var 8) .no (.yes (.neg (.cst (.int 1))))) (.cons (.blt .tuple (.cons (.var 8) .nil)) .nil)))) (.mov 5)) .nil))))) .nil) .nil) (.cons (.ite (.cmp .eq (.var 4) (.cst (.int 4))) (.cons (.ret (.idx (.lst (.cons (.tup (.cons (.cst (.str (Str.ofString "Set"))) (.cons (.cst (.int 0)) (.cons (.mov 8) .nil)))) (.cons (.tup (.cons (.cst (.str (Str.ofString "go"))) (.cons (.cst (.int 0)) (.cons (.cst (.int 0)) .nil)))) (.cons (.tup (.cons (.cst (.str (Str.ofString "swap"))) (.cons (.cst (.int 0)) .nil))) .nil)))) (.mov 5))) .nil) .nil) (.cons (.ite (.cmp .eq (.var 4) (.cst (.int 5))) (.cons (.ret (.idx (.lst (.cons (.lst (.cons (.cst (.str (Str.ofString "go"))) (.cons (.cst (.int 0)) .nil))) (.cons (.tup .nil) (.cons (.cst .non) .nil)))) (.mov 5))) .nil) .nil) (.cons (.ret (.tup (.cons (.mov 7) (.cons (.cst (.int 0)) (.cons (.bin .add (.bin .add (.slc (.var 8) .no (.yes (.var 6))) (.lst (.cons (.idx (.lst (.cons (.cst (.int 10)) (.cons (.cst (.bl true)) (.cons (.cst .non) .nil)))) (.mov 5)) .nil))) (.slc (.var 8) (.yes (.bin .add (.var 6) (.cst (.int 1)))) .no)) .nil))))) .nil))))))))))))
def f_l_bad_statement : Fn := ⟨((Str.ofString "_law_bad_statement"), none), [(Str.ofString "_law_controls"), (Str.ofString "_law_cells"), (Str.ofString "_law_burden"), (Str.ofString "_law_pool_here")], [(Str.ofString "_law_controls"), (Str.ofString "_law_cells"), (Str.ofString "_law_burden"), (Str.ofString "_law_pool_here"), (Str.ofString "_law_deed"), (Str.ofString "_law_pick"), (Str.ofString "_law_at"), (Str.ofString "_law_word"), (Str.ofString "_law_row")], [3], b_l_bad_statement⟩
abbrev s_l_bad_blocks : Stmt := topS 46
def p_l_bad_blocks_a3 : Ss := (.cons (.ite (.cmp .eq (.var 2) (.cst (.int 0))) (.cons (.setI 8 (.mov 6) (.idx (.lst (.cons (.bin .add (.var 7) (.bin .mul (.lst (.cons (.tup (.cons (.cst (.str (Str.ofString "go"))) (.cons (.cst (.int 0)) .nil))) .nil)) (.cst (.int 7)))) (.cons (.blt .tuple (.cons (.var 7) .nil)) (.cons (.cst .non) .nil)))) (.mov 3))) .nil) (.cons (.ite (.cmp .eq (.var 2) (.cst (.int 1))) (.cons (.setI 4 (.mov 5) (.idx (.lst (.cons (.slc (.var 8) .no (.yes (.neg (.cst (.int 1))))) (.cons (.bin .add (.var 8) (.lst (.cons (.lst .nil) .nil))) (.cons (.blt .tuple (.cons (.var 8) .nil)) .nil)))) (.mov 3))) .nil) (.cons (.ite (.cmp .eq (.var 2) (.cst (.int 2))) (.cons (.ret (.idx (.lst (.cons (.lst .nil) (.cons (.blt .tuple (.cons (.var 4) .nil)) (.cons (.bin .add (.bin .add (.bin .add (.var 4) (.var 4)) (.var 4)) (.var 4)) .nil)))) (.mov 3))) .nil) (.cons (.set (.name 9) (.shr (.call i_l_draw (.cons (.ref 1) (.cons (.val (.shr (.bin .add (.blt .len (.cons (.var 7) .nil)) (.cst (.int 1))))) .nil))))) (.cons (.set (.name 10) (.call i_l_bad_statement (.cons (.val (.bor (.blt .len (.cons (.var 4) .nil)))) (.cons (.val (.shr (.idx (.var 0) (.cst (.int 1))))) (.cons (.val (.shr (.idx (.idx (.var 0) (.cst (.int 0))) (.var 6)))) (.cons (.ref 1) .nil)))))) (.cons (.setI 8 (.mov 6) (.bin .add (.bin .add (.slc (.var 7) .no (.yes (.var 9))) (.lst (.cons (.mov 10) .nil))) (.slc (.var 7) (.yes (.bin .add (.var 9) (.cst (.int 1)))) .no))) .nil)))) .nil)) .nil)) .nil)
def p_l_bad_blocks_r4 : Ss := (.cons (.ret (.mov 4)) .nil)
def p_l_bad_blocks_v1 : Ss := (.cons (.set (.name 8) (.plc (.sub (.nm 4) (.v 5)))) (.cons (.ite (.cmp .eq (.var 2) (.cst (.int 0))) (.cons .nev .nil) (.cons (.ite (.cmp .eq (.var 2) (.cst (.int 1))) (.cons (.setI 4 (.var 5) (.idx (.lst (.cons (.slc (.var 8) .no (.yes (.neg (.cst (.int 1))))) (.cons (.bin .add (.var 8) (.lst (.cons (.lst .nil) .nil))) (.cons (.blt .tuple (.cons (.var 8) .nil)) .nil)))) (.var 3))) .nil) (.cons (.ite (.cmp .eq (.var 2) (.cst (.int 2))) (.cons (.ret (.idx (.lst (.cons (.lst .nil) (.cons (.blt .tuple (.cons (.var 4) .nil)) (.cons (.bin .add (.bin .add (.bin .add (.var 4) (.var 4)) (.var 4)) (.var 4)) .nil)))) (.var 3))) .nil) (.cons .nev (.cons .nev (.cons .nev .nil)))) .nil)) .nil)) (.cons (.ret (.mov 4)) .nil)))
def p_l_bad_blocks_v2 : Ss := (.ali 8 (.sub (.nm 4) (.v 5)) p_l_bad_blocks_a3 p_l_bad_blocks_r4)
def b_l_bad_blocks : Ss := (.cons (.set (.name 2) (.shr (.call i_l_draw (.cons (.ref 1) (.cons (.val (.cst (.int 5))) .nil))))) (.cons (.set (.name 3) (.call i_l_draw (.cons (.ref 1) (.cons (.val (.cst (.int 3))) .nil)))) (.cons (.set (.name 4) (.call i_l_blocks_copy (.cons (.val (.shr (.idx (.var 0) (.cst (.int 2))))) .nil))) (.cons (.set (.name 5) (.call i_l_draw (.cons (.ref 1) (.cons (.val (.bor (.blt .len (.cons (.var 4) .nil)))) .nil)))) (.cons (.set (.name 6) (.shr (.call i_l_draw (.cons (.ref 1) (.cons (.val (.blt .len (.cons (.idx (.var 0) (.cst (.int 0))) .nil))) .nil))))) (.cons (.set (.name 7) (.shr (.plc (.sub (.sub (.nm 4) (.v 5)) (.v 6))))) (.alt p_l_bad_blocks_v1 p_l_bad_blocks_v2)))))))
def f_l_bad_blocks : Fn := ⟨((Str.ofString "_law_bad_blocks"), none), [(Str.ofString "_law_parts"), (Str.ofString "_law_pool_here")], [(Str.ofString "_law_parts"), (Str.ofString "_law_pool_here"), (Str.ofString "_law_deed"), (Str.ofString "_law_pick"), (Str.ofString "_law_blocks"), (Str.ofString "_law_control"), (Str.ofString "_law_kind"), (Str.ofString "_law_block"), (Str.ofString "_law_line"), (Str.ofString "_law_at"), (Str.ofString "_law_bad")], [1], b_l_bad_blocks⟩
abbrev s_l_bad_shows : Stmt := topS 47
def b_l_bad_shows : Ss := (.cons (.set (.name 3) (.shr (.call i_l_draw (.cons (.ref 1) (.cons (.val (.cst (.int 6))) .nil))))) (.cons (.set (.name 4) (.shr (.call i_l_draw (.cons (.ref 1) (.cons (.val (.blt .len (.cons (.var 0) .nil))) .nil))))) (.cons (.set (.name 5) (.shr (.bin .mul (.lst (.cons (.cst (.int 0)) .nil)) (.mov 2)))) (.cons (.ite (.cmp .eq (.var 3) (.cst (.int 0))) (.cons (.ret (.slc (.mov 0) .no (.yes (.neg (.cst (.int 1)))))) .nil) .nil) (.cons (.ite (.cmp .eq (.var 3) (.cst (.int 1))) (.cons (.ret (.bin .add (.mov 0) (.lst (.cons (.lst .nil) .nil)))) .nil) .nil) (.cons (.set (.name 6) (.idx (.lst (.cons (.lst (.cons (.var 5) (.cons (.var 5) (.cons (.var 5) .nil)))) (.cons (.cst .non) (.cons (.lst (.cons (.bin .add (.var 5) (.lst (.cons (.cst (.int 0)) .nil))) .nil)) (.cons (.lst (.cons (.var 5) (.cons (.bin .add (.slc (.var 5) .no (.yes (.neg (.cst (.int 1))))) (.lst (.cons (.cst (.int 10)) .nil))) .nil))) .nil))))) (.bin .sub (.mov 3) (.cst (.int 2))))) (.cons (.ret (.bin .add (.bin .add (.slc (.var 0) .no (.yes (.var 4))) (.lst (.cons (.mov 6) .nil))) (.slc (.var 0) (.yes (.bin .add (.var 4) (.cst (.int 1)))) .no))) .nil)))))))
def f_l_bad_shows : Fn := ⟨((Str.ofString "_law_bad_shows"), none), [(Str.ofString "_law_shows"), (Str.ofString "_law_pool_here"), (Str.ofString "_law_width")], [(Str.ofString "_law_shows"), (Str.ofString "_law_pool_here"), (Str.ofString "_law_width"), (Str.ofString "_law_pick"), (Str.ofString "_law_at"), (Str.ofString "_law_row"), (Str.ofString "_law_bad")], [1], b_l_bad_shows⟩
abbrev s_l_asked : Stmt := topS 48
def p_l_asked_t1 : Ss := (.cons (.may .ex (.call i_script_hear (.cons (.val (.shr (.mov 0))) (.cons (.val (.shr (.mov 1))) (.cons (.val (.shr (.mov 2))) .nil))))) .nil)
def b_l_asked : Ss := (.cons (.set (.name 3) (.tup (.cons (.cst (.str (Str.ofString "told"))) .nil))) (.cons (.try_ p_l_asked_t1 [⟨(Str.ofString "NoStand"), (some 4), (.set 3 (.tup (.cons (.cst (.str (Str.ofString "NoStand"))) (.cons (.isx (Str.ofString "LateError")) .nil))))⟩, ⟨(Str.ofString "NoMessage"), (some 4), (.set 3 (.tup (.cons (.cst (.str (Str.ofString "NoMessage"))) (.cons (.fld (Str.ofString "index")) (.cons (.isint i_l_is_integer (.fld (Str.ofString "index"))) .nil)))))⟩]) (.cons (.ret (.mov 3)) .nil)))
def f_l_asked : Fn := ⟨((Str.ofString "_law_asked"), none), [(Str.ofString "_law_made"), (Str.ofString "_law_stand"), (Str.ofString "_law_message")], [(Str.ofString "_law_made"), (Str.ofString "_law_stand"), (Str.ofString "_law_message"), (Str.ofString "_law_found"), (Str.ofString "e")], [], b_l_asked⟩
abbrev s_law : Stmt := topS 49
def p_law_t1 : Ss := (.cons (.may .ex (.make (Str.ofString "Script") i_Scriptu_initu (.cons (.val (.shr (.idv 4 (.cst (.int 0))))) (.cons (.val (.shr (.idv 4 (.cst (.int 1))))) (.cons (.val (.shr (.idv 4 (.cst (.int 2))))) (.cons (.val (.shr (.idv 4 (.cst (.int 3))))) .nil)))))) .nil)
def p_law_c2 : E := (.call i_l_draw (.cons (.ref 3) (.cons (.val (.cst (.int 2))) .nil)))
def p_law_c3 : E := (.blt .list (.cons (.var 14) .nil))
def b_law : Ss := (.cons (.set (.name 1) (.shr (.call i_l_script_parts (.cons (.val (.call i_l_pool (.cons (.val (.var 0)) (.cons (.val (.cst (.int 0))) .nil)))) .nil)))) (.cons (.may (.set (.name 2)) (.shr (.call i_l_script (.cons (.val (.var 1)) .nil)))) (.cons (.set (.name 3) (.call i_l_pool (.cons (.val (.var 0)) (.cons (.val (.cst (.int 1))) .nil)))) (.cons (.set (.name 4) (.lst (.cons (.blt .list (.cons (.idx (.var 1) (.cst (.int 0))) .nil)) (.cons (.idx (.var 1) (.cst (.int 1))) (.cons (.call i_l_blocks_copy (.cons (.val (.shr (.idx (.var 1) (.cst (.int 2))))) .nil)) (.cons (.comp p_law_c3 (.name 14) (.seq (.idx (.var 1) (.cst (.int 3)))) .no) .nil)))))) (.cons (.set (.name 5) (.shr (.comp p_law_c2 (.name 13) (.rng (.cst (.int 4))) .no))) (.cons (.set (.name 6) (.cst (.str (Str.ofString "none")))) (.cons (.ite (.cmp .eq (.idx (.var 5) (.cst (.int 3))) (.cst (.int 1))) (.cons (.setI 4 (.cst (.int 3)) (.call i_l_bad_shows (.cons (.val (.shr (.idv 4 (.cst (.int 3))))) (.cons (.val (.call i_l_pool (.cons (.val (.var 0)) (.cons (.val (.cst (.int 2))) .nil)))) (.cons (.val (.shr (.bin .add (.cst (.int 1)) (.idx (.var 1) (.cst (.int 1)))))) .nil))))) (.cons (.set (.name 6) (.cst (.str (Str.ofString "shows")))) .nil)) .nil) (.cons (.ite (.cmp .eq (.idx (.var 5) (.cst (.int 2))) (.cst (.int 1))) (.cons (.setI 4 (.cst (.int 2)) (.call i_l_bad_blocks (.cons (.val (.var 1)) (.cons (.val (.call i_l_pool (.cons (.val (.shr (.mov 0))) (.cons (.val (.cst (.int 3))) .nil)))) .nil)))) (.cons (.set (.name 6) (.cst (.str (Str.ofString "blocks")))) .nil)) .nil) (.cons (.ite (.cmp .eq (.idx (.var 5) (.cst (.int 1))) (.cst (.int 1))) (.cons (.setI 4 (.cst (.int 1)) (.idx (.lst (.cons (.cst (.int 0)) (.cons (.cst (.int 4)) (.cons (.cst (.bl true)) (.cons (.lst (.cons (.cst (.int 1)) .nil)) (.cons (.cst .non) (.cons (.neg (.cst (.int 1))) .nil))))))) (.call i_l_draw (.cons (.ref 3) (.cons (.val (.cst (.int 6))) .nil))))) (.cons (.set (.name 6) (.cst (.str (Str.ofString "cells")))) .nil)) .nil) (.cons (.ite (.cmp .eq (.idx (.var 5) (.cst (.int 0))) (.cst (.int 1))) (.cons (.set (.name 11) (.shr (.idx (.lst (.cons (.lst .nil) (.cons (.lst (.cons (.cst (.int 0)) (.cons (.cst (.int 0)) (.cons (.cst (.int 0)) (.cons (.cst (.int 0)) .nil))))) (.cons (.lst (.cons (.cst (.int 3)) .nil)) (.cons (.lst (.cons (.cst (.int 0)) (.cons (.cst (.bl true)) .nil))) (.cons (.tup (.cons (.cst (.int 0)) .nil)) (.cons (.cst .non) (.cons (.lst (.cons (.neg (.cst (.int 1))) (.cons (.cst (.int 0)) .nil))) .nil)))))))) (.call i_l_draw (.cons (.ref 3) (.cons (.val (.cst (.int 7))) .nil)))))) (.cons (.setI 4 (.cst (.int 0)) (.mov 11)) (.cons (.set (.name 6) (.cst (.str (Str.ofString "burdens")))) .nil))) .nil) (.cons (.set (.name 7) (.shr (.tup (.cons (.cst (.str (Str.ofString "told"))) .nil)))) (.cons (.try_ p_law_t1 [⟨(Str.ofString "NoScript"), (some 8), (.set 7 (.tup (.cons (.fld (Str.ofString "place")) (.cons (.and (.isx (Str.ofString "LateError")) (.isx (Str.ofString "ValueError"))) (.cons (.isx (Str.ofString "NoListener")) .nil)))))⟩]) (.cons (.ite (.or (.cons (.and (.cons (.cmp .eq (.var 6) (.cst (.str (Str.ofString "none")))) (.cons (.cmp .ne (.var 7) (.tup (.cons (.cst (.str (Str.ofString "told"))) .nil))) .nil))) (.cons (.and (.cons (.cmp .ne (.var 6) (.cst (.str (Str.ofString "none")))) (.cons (.cmp .ne (.var 7) (.tup (.cons (.var 6) (.cons (.cst (.bl true)) (.cons (.cst (.bl false)) .nil))))) .nil))) .nil))) (.cons (.ret (.cst (.bl false))) .nil) .nil) (.cons (.set (.name 9) (.shr (.call i_l_script_stand (.cons (.ref 3) (.cons (.val (.var 1)) .nil))))) (.cons (.set (.name 10) (.shr (.call i_l_script_message (.cons (.ref 3) (.cons (.val (.var 1)) .nil))))) (.cons (.set (.name 11) (.shr (.call i_l_bad_stand (.cons (.val (.var 9)) (.cons (.ref 3) (.cons (.val (.blt .len (.cons (.idx (.var 1) (.cst (.int 2))) .nil))) .nil)))))) (.cons (.set (.name 12) (.shr (.call i_l_bad_message (.cons (.val (.var 10)) (.cons (.ref 3) (.cons (.val (.blt .len (.cons (.idx (.mov 1) (.cst (.int 0))) .nil))) .nil)))))) (.cons (.ite (.or (.cons (.cmp .ne (.call i_l_asked (.cons (.val (.var 2)) (.cons (.val (.var 11)) (.cons (.val (.var 12)) .nil)))) (.tup (.cons (.cst (.str (Str.ofString "NoStand"))) (.cons (.cst (.bl true)) .nil)))) (.cons (.cmp .ne (.call i_l_asked (.cons (.val (.var 2)) (.cons (.val (.var 11)) (.cons (.val (.var 10)) .nil)))) (.tup (.cons (.cst (.str (Str.ofString "NoStand"))) (.cons (.cst (.bl true)) .nil)))) .nil))) (.cons (.ret (.cst (.bl false))) .nil) .nil) (.cons (.ret (.and (.cons (.cmp .eq (.call i_l_asked (.cons (.val (.var 2)) (.cons (.val (.var 9)) (.cons (.val (.var 12)) .nil)))) (.tup (.cons (.cst (.str (Str.ofString "NoMessage"))) (.cons (.cst (.int 0)) (.cons (.cst (.bl true)) .nil))))) (.cons (.cmp .eq (.call i_l_asked (.cons (.val (.var 2)) (.cons (.val (.var 9)) (.cons (.val (.var 10)) .nil)))) (.tup (.cons (.cst (.str (Str.ofString "told"))) .nil))) .nil)))) .nil)))))))))))))))))))
def f_law : Fn := ⟨((Str.ofString "law"), none), [(Str.ofString "_law_script_here")], [(Str.ofString "_law_script_here"), (Str.ofString "_law_parts"), (Str.ofString "_law_made"), (Str.ofString "_law_pool_here"), (Str.ofString "_law_given"), (Str.ofString "_law_spoils"), (Str.ofString "_law_expected"), (Str.ofString "_law_found"), (Str.ofString "e"), (Str.ofString "_law_stand"), (Str.ofString "_law_message"), (Str.ofString "_law_bad"), (Str.ofString "_law_wrong"), (Str.ofString "_law_k"), (Str.ofString "_law_rows")], [], b_law⟩
def T : Tab := ⟨[f_is_integer, f_is_index, f_is_vector, f_is_row, f_are_rows, f_are_integers, f_is_stand, f_check_stand, f_is_message, f_bad_message, f_check_messages, f_are_kinds, f_are_burdens, f_are_shows, f_copied, f_dot, f_is_statement, f_is_block, f_are_blocks, f_copied_statement, f_Scriptu_initu, f_script_hear, f_l_pool, f_l_draw, f_l_is_integer, f_l_number, f_l_statement, f_l_script_parts, f_l_blocks_copy, f_l_copied, f_l_script, f_l_script_message, f_l_script_stand, f_l_bad_stand, f_l_bad_message, f_l_bad_statement, f_l_bad_blocks, f_l_bad_shows, f_l_asked, f_law], [((Str.ofString "Script"), [(Str.ofString "burdens"), (Str.ofString "many"), (Str.ofString "blocks"), (Str.ofString "shows")])], [(((Str.ofString "Script"), (Str.ofString "__init__")), 20)], [((Str.ofString "LateError"), [(Str.ofString "LateError"), (Str.ofString "ValueError")]), ((Str.ofString "NoListener"), [(Str.ofString "NoListener"), (Str.ofString "LateError"), (Str.ofString "ValueError")]), ((Str.ofString "NoStand"), [(Str.ofString "NoStand"), (Str.ofString "LateError"), (Str.ofString "ValueError")]), ((Str.ofString "NoMessage"), [(Str.ofString "NoMessage"), (Str.ofString "LateError"), (Str.ofString "ValueError")]), ((Str.ofString "NoScript"), [(Str.ofString "NoScript"), (Str.ofString "LateError"), (Str.ofString "ValueError")])], [((Str.ofString "NoListener"), (Str.ofString "place")), ((Str.ofString "NoMessage"), (Str.ofString "index")), ((Str.ofString "NoScript"), (Str.ofString "place"))], [i_l_is_integer], []⟩
noncomputable abbrev G (k : Nat) : FL.Ctx := ⟨run T k, runX T k, T.cs, T.ms, T.xt⟩
theorem r_is_integer (k : Nat) (ds : List D) : run T (k + 1) i_is_integer ds = runFn (G k) f_is_integer ds := run_eq rfl
theorem r_is_index (k : Nat) (ds : List D) : run T (k + 1) i_is_index ds = runFn (G k) f_is_index ds := run_eq rfl
theorem r_is_vector (k : Nat) (ds : List D) : run T (k + 1) i_is_vector ds = runFn (G k) f_is_vector ds := run_eq rfl
theorem r_is_row (k : Nat) (ds : List D) : run T (k + 1) i_is_row ds = runFn (G k) f_is_row ds := run_eq rfl
theorem r_are_rows (k : Nat) (ds : List D) : run T (k + 1) i_are_rows ds = runFn (G k) f_are_rows ds := run_eq rfl
theorem r_are_integers (k : Nat) (ds : List D) : run T (k + 1) i_are_integers ds = runFn (G k) f_are_integers ds := run_eq rfl
theorem r_is_stand (k : Nat) (ds : List D) : run T (k + 1) i_is_stand ds = runFn (G k) f_is_stand ds := run_eq rfl
theorem r_check_stand (k : Nat) (ds : List D) : run T (k + 1) i_check_stand ds = runFn (G k) f_check_stand ds := run_eq rfl
theorem r_is_message (k : Nat) (ds : List D) : run T (k + 1) i_is_message ds = runFn (G k) f_is_message ds := run_eq rfl
theorem r_bad_message (k : Nat) (ds : List D) : run T (k + 1) i_bad_message ds = runFn (G k) f_bad_message ds := run_eq rfl
theorem r_check_messages (k : Nat) (ds : List D) : run T (k + 1) i_check_messages ds = runFn (G k) f_check_messages ds := run_eq rfl
theorem r_are_kinds (k : Nat) (ds : List D) : run T (k + 1) i_are_kinds ds = runFn (G k) f_are_kinds ds := run_eq rfl
theorem r_are_burdens (k : Nat) (ds : List D) : run T (k + 1) i_are_burdens ds = runFn (G k) f_are_burdens ds := run_eq rfl
theorem r_are_shows (k : Nat) (ds : List D) : run T (k + 1) i_are_shows ds = runFn (G k) f_are_shows ds := run_eq rfl
theorem r_copied (k : Nat) (ds : List D) : run T (k + 1) i_copied ds = runFn (G k) f_copied ds := run_eq rfl
theorem r_dot (k : Nat) (ds : List D) : run T (k + 1) i_dot ds = runFn (G k) f_dot ds := run_eq rfl
theorem r_is_statement (k : Nat) (ds : List D) : run T (k + 1) i_is_statement ds = runFn (G k) f_is_statement ds := run_eq rfl
theorem r_is_block (k : Nat) (ds : List D) : run T (k + 1) i_is_block ds = runFn (G k) f_is_block ds := run_eq rfl
theorem r_are_blocks (k : Nat) (ds : List D) : run T (k + 1) i_are_blocks ds = runFn (G k) f_are_blocks ds := run_eq rfl
theorem r_copied_statement (k : Nat) (ds : List D) : run T (k + 1) i_copied_statement ds = runFn (G k) f_copied_statement ds := run_eq rfl
theorem r_Scriptu_initu (k : Nat) (ds : List D) : run T (k + 1) i_Scriptu_initu ds = runFn (G k) f_Scriptu_initu ds := run_eq rfl
theorem r_script_hear (k : Nat) (ds : List D) : run T (k + 1) i_script_hear ds = runFn (G k) f_script_hear ds := run_eq rfl
theorem r_l_pool (k : Nat) (ds : List D) : run T (k + 1) i_l_pool ds = runFn (G k) f_l_pool ds := run_eq rfl
theorem r_l_draw (k : Nat) (ds : List D) : run T (k + 1) i_l_draw ds = runFn (G k) f_l_draw ds := run_eq rfl
theorem r_l_is_integer (k : Nat) (ds : List D) : run T (k + 1) i_l_is_integer ds = runFn (G k) f_l_is_integer ds := run_eq rfl
theorem r_l_number (k : Nat) (ds : List D) : run T (k + 1) i_l_number ds = runFn (G k) f_l_number ds := run_eq rfl
theorem r_l_statement (k : Nat) (ds : List D) : run T (k + 1) i_l_statement ds = runFn (G k) f_l_statement ds := run_eq rfl
theorem r_l_script_parts (k : Nat) (ds : List D) : run T (k + 1) i_l_script_parts ds = runFn (G k) f_l_script_parts ds := run_eq rfl
theorem r_l_blocks_copy (k : Nat) (ds : List D) : run T (k + 1) i_l_blocks_copy ds = runFn (G k) f_l_blocks_copy ds := run_eq rfl
theorem r_l_copied (k : Nat) (ds : List D) : run T (k + 1) i_l_copied ds = runFn (G k) f_l_copied ds := run_eq rfl
theorem r_l_script (k : Nat) (ds : List D) : run T (k + 1) i_l_script ds = runFn (G k) f_l_script ds := run_eq rfl
theorem r_l_script_message (k : Nat) (ds : List D) : run T (k + 1) i_l_script_message ds = runFn (G k) f_l_script_message ds := run_eq rfl
theorem r_l_script_stand (k : Nat) (ds : List D) : run T (k + 1) i_l_script_stand ds = runFn (G k) f_l_script_stand ds := run_eq rfl
theorem r_l_bad_stand (k : Nat) (ds : List D) : run T (k + 1) i_l_bad_stand ds = runFn (G k) f_l_bad_stand ds := run_eq rfl
theorem r_l_bad_message (k : Nat) (ds : List D) : run T (k + 1) i_l_bad_message ds = runFn (G k) f_l_bad_message ds := run_eq rfl
theorem r_l_bad_statement (k : Nat) (ds : List D) : run T (k + 1) i_l_bad_statement ds = runFn (G k) f_l_bad_statement ds := run_eq rfl
theorem r_l_bad_blocks (k : Nat) (ds : List D) : run T (k + 1) i_l_bad_blocks ds = runFn (G k) f_l_bad_blocks ds := run_eq rfl
theorem r_l_bad_shows (k : Nat) (ds : List D) : run T (k + 1) i_l_bad_shows ds = runFn (G k) f_l_bad_shows ds := run_eq rfl
theorem r_l_asked (k : Nat) (ds : List D) : run T (k + 1) i_l_asked ds = runFn (G k) f_l_asked ds := run_eq rfl
theorem r_law (k : Nat) (ds : List D) : run T (k + 1) i_law ds = runFn (G k) f_law ds := run_eq rfl
theorem x_check_stand (k : Nat) (ds : List D) : runX T (k + 1) i_check_stand ds = runFnX (G k) f_check_stand ds := runX_eq rfl
theorem x_check_messages (k : Nat) (ds : List D) : runX T (k + 1) i_check_messages ds = runFnX (G k) f_check_messages ds := runX_eq rfl
theorem x_Scriptu_initu (k : Nat) (ds : List D) : runX T (k + 1) i_Scriptu_initu ds = runFnX (G k) f_Scriptu_initu ds := runX_eq rfl
theorem x_script_hear (k : Nat) (ds : List D) : runX T (k + 1) i_script_hear ds = runFnX (G k) f_script_hear ds := runX_eq rfl
theorem x_l_script (k : Nat) (ds : List D) : runX T (k + 1) i_l_script ds = runFnX (G k) f_l_script ds := runX_eq rfl
theorem x_law (k : Nat) (ds : List D) : runX T (k + 1) i_law ds = runFnX (G k) f_law ds := runX_eq rfl
@[simp] theorem isX_LateError_LateError : isX T.xt (Str.ofString "LateError") (Str.ofString "LateError") = some true := by decide +kernel
@[simp] theorem isX_LateError_NoListener : isX T.xt (Str.ofString "LateError") (Str.ofString "NoListener") = some false := by decide +kernel
@[simp] theorem isX_LateError_NoStand : isX T.xt (Str.ofString "LateError") (Str.ofString "NoStand") = some false := by decide +kernel
@[simp] theorem isX_LateError_NoMessage : isX T.xt (Str.ofString "LateError") (Str.ofString "NoMessage") = some false := by decide +kernel
@[simp] theorem isX_LateError_NoScript : isX T.xt (Str.ofString "LateError") (Str.ofString "NoScript") = some false := by decide +kernel
@[simp] theorem isX_LateError_ValueError : isX T.xt (Str.ofString "LateError") (Str.ofString "ValueError") = some true := by decide +kernel
@[simp] theorem isX_NoListener_LateError : isX T.xt (Str.ofString "NoListener") (Str.ofString "LateError") = some true := by decide +kernel
@[simp] theorem isX_NoListener_NoListener : isX T.xt (Str.ofString "NoListener") (Str.ofString "NoListener") = some true := by decide +kernel
@[simp] theorem isX_NoListener_NoStand : isX T.xt (Str.ofString "NoListener") (Str.ofString "NoStand") = some false := by decide +kernel
@[simp] theorem isX_NoListener_NoMessage : isX T.xt (Str.ofString "NoListener") (Str.ofString "NoMessage") = some false := by decide +kernel
@[simp] theorem isX_NoListener_NoScript : isX T.xt (Str.ofString "NoListener") (Str.ofString "NoScript") = some false := by decide +kernel
@[simp] theorem isX_NoListener_ValueError : isX T.xt (Str.ofString "NoListener") (Str.ofString "ValueError") = some true := by decide +kernel
@[simp] theorem isX_NoStand_LateError : isX T.xt (Str.ofString "NoStand") (Str.ofString "LateError") = some true := by decide +kernel
@[simp] theorem isX_NoStand_NoListener : isX T.xt (Str.ofString "NoStand") (Str.ofString "NoListener") = some false := by decide +kernel
@[simp] theorem isX_NoStand_NoStand : isX T.xt (Str.ofString "NoStand") (Str.ofString "NoStand") = some true := by decide +kernel
@[simp] theorem isX_NoStand_NoMessage : isX T.xt (Str.ofString "NoStand") (Str.ofString "NoMessage") = some false := by decide +kernel
@[simp] theorem isX_NoStand_NoScript : isX T.xt (Str.ofString "NoStand") (Str.ofString "NoScript") = some false := by decide +kernel
@[simp] theorem isX_NoStand_ValueError : isX T.xt (Str.ofString "NoStand") (Str.ofString "ValueError") = some true := by decide +kernel
@[simp] theorem isX_NoMessage_LateError : isX T.xt (Str.ofString "NoMessage") (Str.ofString "LateError") = some true := by decide +kernel
@[simp] theorem isX_NoMessage_NoListener : isX T.xt (Str.ofString "NoMessage") (Str.ofString "NoListener") = some false := by decide +kernel
@[simp] theorem isX_NoMessage_NoStand : isX T.xt (Str.ofString "NoMessage") (Str.ofString "NoStand") = some false := by decide +kernel
@[simp] theorem isX_NoMessage_NoMessage : isX T.xt (Str.ofString "NoMessage") (Str.ofString "NoMessage") = some true := by decide +kernel
@[simp] theorem isX_NoMessage_NoScript : isX T.xt (Str.ofString "NoMessage") (Str.ofString "NoScript") = some false := by decide +kernel
@[simp] theorem isX_NoMessage_ValueError : isX T.xt (Str.ofString "NoMessage") (Str.ofString "ValueError") = some true := by decide +kernel
@[simp] theorem isX_NoScript_LateError : isX T.xt (Str.ofString "NoScript") (Str.ofString "LateError") = some true := by decide +kernel
@[simp] theorem isX_NoScript_NoListener : isX T.xt (Str.ofString "NoScript") (Str.ofString "NoListener") = some false := by decide +kernel
@[simp] theorem isX_NoScript_NoStand : isX T.xt (Str.ofString "NoScript") (Str.ofString "NoStand") = some false := by decide +kernel
@[simp] theorem isX_NoScript_NoMessage : isX T.xt (Str.ofString "NoScript") (Str.ofString "NoMessage") = some false := by decide +kernel
@[simp] theorem isX_NoScript_NoScript : isX T.xt (Str.ofString "NoScript") (Str.ofString "NoScript") = some true := by decide +kernel
@[simp] theorem isX_NoScript_ValueError : isX T.xt (Str.ofString "NoScript") (Str.ofString "ValueError") = some true := by decide +kernel
abbrev s_xNoListener : Stmt := clsS 2 0
theorem ckx_NoListener : xinitB (Str.ofString "place") [(Str.ofString "self"), (Str.ofString "place")] (defBody s_xNoListener) (defScope s_xNoListener) = true := by decide +kernel
abbrev s_xNoMessage : Stmt := clsS 4 0
theorem ckx_NoMessage : xinitB (Str.ofString "index") [(Str.ofString "self"), (Str.ofString "index")] (defBody s_xNoMessage) (defScope s_xNoMessage) = true := by decide +kernel
abbrev s_xNoScript : Stmt := clsS 5 0
theorem ckx_NoScript : xinitB (Str.ofString "place") [(Str.ofString "self"), (Str.ofString "place")] (defBody s_xNoScript) (defScope s_xNoScript) = true := by decide +kernel
theorem cki_l_is_integer : isintB f_l_is_integer.ps (defBody s_l_is_integer) (defScope s_l_is_integer) = true := by decide +kernel
theorem ck_is_integer : defChk T f_is_integer (defBody s_is_integer) (defScope s_is_integer) = true := by decide +kernel
theorem ck_is_index : defChk T f_is_index (defBody s_is_index) (defScope s_is_index) = true := by decide +kernel
theorem ck_is_vector : defChk T f_is_vector (defBody s_is_vector) (defScope s_is_vector) = true := by decide +kernel
theorem ck_is_row : defChk T f_is_row (defBody s_is_row) (defScope s_is_row) = true := by decide +kernel
theorem ck_are_rows : defChk T f_are_rows (defBody s_are_rows) (defScope s_are_rows) = true := by decide +kernel
theorem ck_are_integers : defChk T f_are_integers (defBody s_are_integers) (defScope s_are_integers) = true := by decide +kernel
theorem ck_is_stand : defChk T f_is_stand (defBody s_is_stand) (defScope s_is_stand) = true := by decide +kernel
theorem ck_check_stand : defChk T f_check_stand (defBody s_check_stand) (defScope s_check_stand) = true := by decide +kernel
theorem ck_is_message : defChk T f_is_message (defBody s_is_message) (defScope s_is_message) = true := by decide +kernel
theorem ck_bad_message : defChk T f_bad_message (defBody s_bad_message) (defScope s_bad_message) = true := by decide +kernel
theorem ck_check_messages : defChk T f_check_messages (defBody s_check_messages) (defScope s_check_messages) = true := by decide +kernel
theorem ck_are_kinds : defChk T f_are_kinds (defBody s_are_kinds) (defScope s_are_kinds) = true := by decide +kernel
theorem ck_are_burdens : defChk T f_are_burdens (defBody s_are_burdens) (defScope s_are_burdens) = true := by decide +kernel
theorem ck_are_shows : defChk T f_are_shows (defBody s_are_shows) (defScope s_are_shows) = true := by decide +kernel
theorem ck_copied : defChk T f_copied (defBody s_copied) (defScope s_copied) = true := by decide +kernel
theorem ck_dot : defChk T f_dot (defBody s_dot) (defScope s_dot) = true := by decide +kernel
theorem ck_is_statement : defChk T f_is_statement (defBody s_is_statement) (defScope s_is_statement) = true := by decide +kernel
theorem ck_is_block : defChk T f_is_block (defBody s_is_block) (defScope s_is_block) = true := by decide +kernel
theorem ck_are_blocks : defChk T f_are_blocks (defBody s_are_blocks) (defScope s_are_blocks) = true := by decide +kernel
theorem ck_copied_statement : defChk T f_copied_statement (defBody s_copied_statement) (defScope s_copied_statement) = true := by decide +kernel
theorem ck_Scriptu_initu : defChk T f_Scriptu_initu (defBody s_Scriptu_initu) (defScope s_Scriptu_initu) = true := by decide +kernel
theorem ck_script_hear : defChk T f_script_hear (defBody s_script_hear) (defScope s_script_hear) = true := by decide +kernel
theorem ck_l_pool : defChk T f_l_pool (defBody s_l_pool) (defScope s_l_pool) = true := by decide +kernel
theorem ck_l_draw : defChk T f_l_draw (defBody s_l_draw) (defScope s_l_draw) = true := by decide +kernel
theorem ck_l_is_integer : defChk T f_l_is_integer (defBody s_l_is_integer) (defScope s_l_is_integer) = true := by decide +kernel
theorem ck_l_number : defChk T f_l_number (defBody s_l_number) (defScope s_l_number) = true := by decide +kernel
theorem ck_l_statement : defChk T f_l_statement (defBody s_l_statement) (defScope s_l_statement) = true := by decide +kernel
theorem ck_l_script_parts : defChk T f_l_script_parts (defBody s_l_script_parts) (defScope s_l_script_parts) = true := by decide +kernel
theorem ck_l_blocks_copy : defChk T f_l_blocks_copy (defBody s_l_blocks_copy) (defScope s_l_blocks_copy) = true := by decide +kernel
theorem ck_l_copied : defChk T f_l_copied (defBody s_l_copied) (defScope s_l_copied) = true := by decide +kernel
theorem ck_l_script : defChk T f_l_script (defBody s_l_script) (defScope s_l_script) = true := by decide +kernel
theorem ck_l_script_message : defChk T f_l_script_message (defBody s_l_script_message) (defScope s_l_script_message) = true := by decide +kernel
theorem ck_l_script_stand : defChk T f_l_script_stand (defBody s_l_script_stand) (defScope s_l_script_stand) = true := by decide +kernel
theorem ck_l_bad_stand : defChk T f_l_bad_stand (defBody s_l_bad_stand) (defScope s_l_bad_stand) = true := by decide +kernel
theorem ck_l_bad_message : defChk T f_l_bad_message (defBody s_l_bad_message) (defScope s_l_bad_message) = true := by decide +kernel
theorem ck_l_bad_statement : defChk T f_l_bad_statement (defBody s_l_bad_statement) (defScope s_l_bad_statement) = true := by decide +kernel
theorem ck_l_bad_blocks : defChk T f_l_bad_blocks (defBody s_l_bad_blocks) (defScope s_l_bad_blocks) = true := by decide +kernel
theorem ck_l_bad_shows : defChk T f_l_bad_shows (defBody s_l_bad_shows) (defScope s_l_bad_shows) = true := by decide +kernel
theorem ck_l_asked : defChk T f_l_asked (defBody s_l_asked) (defScope s_l_asked) = true := by decide +kernel
theorem ck_law : defChk T f_law (defBody s_law) (defScope s_law) = true := by decide +kernel
end K24

namespace K24
open FL
@[simp] theorem is_integer_int (k : Nat) (a : Int) : run T (k + 1) i_is_integer [.int a] = some (.bl true, [none]) := by
  rw [r_is_integer, runFn_eq rfl]; simp [f_is_integer, b_is_integer]
@[simp] theorem is_index_int (k : Nat) (a n : Int) : run T (k + 2) i_is_index [.int a, .int n] = some (.bl (decide (0 ≤ a) && decide (a < n)), [none, none]) := by
  rw [r_is_index, runFn_eq rfl]; simp [f_is_index, b_is_index]
  by_cases h : 0 ≤ a <;> simp [h]
theorem is_vector_row (k : Nat) (f : Fl) (xs : List Int) (n : Int) (hn : n = xs.length) : run T (k + 2) i_is_vector [.lst f (eI xs), .int n] = some (.bl true, [none, none]) := by
  subst hn
  rw [r_is_vector, runFn_eq rfl]; simp [f_is_vector, b_is_vector, eI_len, eqD_int, shares_ints]
  obtain ⟨x, e⟩ := forL_chk (i := 2) (ρ := [some (D.lst f.sh (eI xs)), some (D.int ↑xs.length), none]) (body := exSs (G (k + 1)) p_is_vector_l1) (items := eI xs) (x0 := none) (by simp) fun d hd => by
    obtain ⟨z, _, rfl⟩ := mem_eI hd
    exact ⟨some (.int z), by simp [p_is_vector_l1]⟩
  simp at e
  simp [e]
def small (xs : List Int) : Prop := ∀ x ∈ xs, -9 ≤ x ∧ x ≤ 9
theorem is_row_row (k : Nat) (f : Fl) (xs : List Int) (n : Int) (hn : n = xs.length) (hs : small xs) : run T (k + 3) i_is_row [.lst f (eI xs), .int n] = some (.bl true, [none, none]) := by
  rw [r_is_row, runFn_eq rfl]; simp [f_is_row, b_is_row, shares_ints, is_vector_row (k + 0) f.sh xs n hn]
  obtain ⟨x, e⟩ := forL_chk (i := 2) (ρ := [some (D.lst f.sh (eI xs)), some (D.int n), none]) (body := exSs (G (k + 2)) p_is_row_l1) (items := eI xs) (x0 := none) (by simp) fun d hd => by
    obtain ⟨z, hz, rfl⟩ := mem_eI hd
    have := hs z hz
    exact ⟨some (.int z), by simp [p_is_row_l1, this.1, this.2]⟩
  simp at e
  simp [e]
def smalls (rs : List (List Int)) (n : Nat) : Prop := ∀ r ∈ rs, r.length = n ∧ small r
theorem shares_rows (f : Fl) (rs : List (List Int)) : shares (rs.map (eRow f)) = rs.map (eRow f.sh) := by
  have := share_rows f rs
  simp only [eRows, sh_lst, D.lst.injEq, true_and] at this
  exact this
theorem are_rows_rows (k : Nat) (f : Fl) (rs : List (List Int)) (m n : Int) (w : Nat) (hm : m = rs.length) (hn : n = w) (hs : smalls rs w) : run T (k + 4) i_are_rows [.lst f (rs.map (eRow f)), .int m, .int n] = some (.bl true, [none, none, none]) := by
  subst hm
  rw [r_are_rows, runFn_eq rfl]; simp [f_are_rows, b_are_rows, eqD_int, shares_rows]
  obtain ⟨x, e⟩ := forL_chk (i := 3) (ρ := [some (D.lst f.sh (rs.map (eRow f.sh))), some (D.int rs.length), some (D.int n), none]) (body := exSs (G (k + 3)) p_are_rows_l1) (items := rs.map (eRow f.sh)) (x0 := none) (by simp) fun d hd => by
    obtain ⟨r, hr, rfl⟩ := List.mem_map.mp hd
    have := hs r hr
    exact ⟨some (eRow f.sh r), by simp [p_are_rows_l1, eRow, shares_ints, is_row_row k f.sh r n (by rw [hn, this.1]) this.2]⟩
  simp at e
  simp [e]

theorem are_integers_tup (k : Nat) (xs : List Int) (n : Int) (hn : n = xs.length) : run T (k + 2) i_are_integers [.tup (eI xs), .int n] = some (.bl true, [none, none]) := by
  subst hn
  rw [r_are_integers, runFn_eq rfl]; simp [f_are_integers, b_are_integers, eI_len, eqD_int, shares_ints]
  obtain ⟨x, e⟩ := forL_chk (i := 2) (ρ := [some (D.tup (eI xs)), some (D.int ↑xs.length), none]) (body := exSs (G (k + 1)) p_are_integers_l1) (items := eI xs) (x0 := none) (by simp) fun d hd => by
    obtain ⟨z, _, rfl⟩ := mem_eI hd
    exact ⟨some (.int z), by simp [p_are_integers_l1]⟩
  simp at e
  simp [e]
def eStand (s : Int × List Int) : D := .tup [.int s.1, .tup (eI s.2)]
abbrev eMsg := eStand
@[simp] theorem share_eStand (s : Int × List Int) : share (eStand s) = eStand s := by simp [eStand, shares_ints]
theorem is_stand_ok (k : Nat) (s : Int × List Int) (c m : Int) (h1 : 0 ≤ s.1) (h2 : s.1 < c) (h3 : m = s.2.length) : run T (k + 3) i_is_stand [eStand s, .int c, .int m] = some (.bl true, [none, none, none]) := by
  rw [r_is_stand, runFn_eq rfl]; simp [f_is_stand, b_is_stand, eStand, eqD_int, shares_ints, h1, h2, are_integers_tup k s.2 m h3]
theorem check_stand_ok (k : Nat) (s : Int × List Int) (c m : Int) (h1 : 0 ≤ s.1) (h2 : s.1 < c) (h3 : m = s.2.length) : run T (k + 4) i_check_stand [eStand s, .int c, .int m] = some (.non, [none, none, none]) := by
  rw [r_check_stand, runFn_eq rfl]; simp [f_check_stand, b_check_stand, is_stand_ok k s c m h1 h2 h3]
/-- a message of the burdens -/
def MsgOk (bs : List Int) (m : Int × List Int) : Prop := ∃ j : Nat, m.1 = j ∧ bs[j]? = some (m.2.length : Int)
theorem MsgOk.lt {bs : List Int} {m : Int × List Int} (h : MsgOk bs m) : 0 ≤ m.1 ∧ m.1 < bs.length := by
  obtain ⟨j, e, g⟩ := h
  have := (List.getElem?_eq_some_iff.mp g).1
  omega
theorem MsgOk.at_ {bs : List Int} {m : Int × List Int} (h : MsgOk bs m) : L2.atI (eI bs) m.1 = some (.int m.2.length) := by
  obtain ⟨j, e, g⟩ := h
  rw [e, atI_nat, eI_get, g]; rfl
theorem is_message_ok (k : Nat) (f : Fl) (bs : List Int) (m : Int × List Int) (h : MsgOk bs m) : run T (k + 3) i_is_message [eMsg m, .lst f (eI bs)] = some (.bl true, [none, none]) := by
  have h1 := h.lt
  have h2 := h.at_
  rw [r_is_message, runFn_eq rfl]; simp [f_is_message, b_is_message, eStand, eqD_int, shares_ints, eI_len, h1.1, h1.2, h2, are_integers_tup k m.2 m.2.length rfl]
theorem shares_msgs (ms : List (Int × List Int)) : shares (ms.map eStand) = ms.map eStand := by
  rw [shares_eq, List.map_map]; apply List.map_congr_left; intro m _; exact share_eStand m
theorem enumL_mem : ∀ {n : Nat} {ds : List D} {d : D}, d ∈ enumL n ds → ∃ (i : Nat) (x : D), ds[i]? = some x ∧ d = .tup [.int ((n + i : Nat) : Int), x]
  | n, [], d, h => by simp [enumL] at h
  | n, y :: ds, d, h => by
    simp only [enumL, List.mem_cons] at h
    rcases h with rfl | h
    · exact ⟨0, y, rfl, by simp⟩
    · obtain ⟨i, x, e, rfl⟩ := enumL_mem h
      exact ⟨i + 1, x, by simpa using e, by congr 3; omega⟩
theorem bad_message_ok (k : Nat) (g : Fl) (bs : List Int) (ms : List (Int × List Int)) (h : ∀ m ∈ ms, MsgOk bs m) : run T (k + 4) i_bad_message [.lst g (ms.map eStand), .lst .shr (eI bs)] = some (.non, [none, none]) := by
  rw [r_bad_message, runFn_eq rfl]; simp [f_bad_message, b_bad_message, shares_msgs]
  obtain ⟨x, y, e⟩ := forL_chk2 (i := 2) (j := 3) (ρ := [some (D.lst g.sh (ms.map eStand)), some (D.lst .shr (eI bs)), none, none]) (body := exSs (G (k + 3)) p_bad_message_l1) (items := enumL 0 (ms.map eStand)) (x0 := none) (y0 := none) (by simp) (by simp) (by simp) fun d hd => by
    obtain ⟨i, x, e, rfl⟩ := enumL_mem hd
    rw [List.getElem?_map] at e
    obtain ⟨m, e1, rfl⟩ := mpd e
    refine ⟨_, _, rfl, some (.int (i : Nat)), some (eStand m), ?_⟩
    simp [p_bad_message_l1, shares_ints, is_message_ok k .shr bs m (h m (List.mem_of_getElem? e1))]
  simp at e
  simp [e]
theorem check_messages_ok (k : Nat) (g : Fl) (bs : List Int) (ms : List (Int × List Int)) (h : ∀ m ∈ ms, MsgOk bs m) : run T (k + 5) i_check_messages [.lst g (ms.map eStand), .lst .shr (eI bs)] = some (.non, [none, none]) := by
  rw [r_check_messages, runFn_eq rfl]; simp [f_check_messages, b_check_messages, shares_msgs, bad_message_ok k g.sh bs ms h]
theorem are_kinds_ok (k : Nat) (f : Fl) (ks : List Int) (n : Int) (h : ∀ x ∈ ks, 0 ≤ x ∧ x < n) : run T (k + 3) i_are_kinds [.lst f (eI ks), .int n] = some (.bl true, [none, none]) := by
  rw [r_are_kinds, runFn_eq rfl]; simp [f_are_kinds, b_are_kinds, shares_ints]
  obtain ⟨x, e⟩ := forL_chk (i := 2) (ρ := [some (D.lst f.sh (eI ks)), some (D.int n), none]) (body := exSs (G (k + 2)) p_are_kinds_l1) (items := eI ks) (x0 := none) (by simp) fun d hd => by
    obtain ⟨z, hz, rfl⟩ := mem_eI hd
    have := h z hz
    exact ⟨some (.int z), by simp [p_are_kinds_l1, this.1, this.2]⟩
  simp at e
  simp [e]
theorem are_burdens_ok (k : Nat) (f : Fl) (bs : List Int) (h1 : 1 ≤ bs.length) (h3 : bs.length ≤ 3) (h : ∀ x ∈ bs, 0 ≤ x ∧ x < 3) : run T (k + 4) i_are_burdens [.lst f (eI bs)] = some (.bl true, [none]) := by
  have a1 : (1 : Int) ≤ bs.length := by omega
  have a3 : (bs.length : Int) ≤ 3 := by omega
  rw [r_are_burdens, runFn_eq rfl]; simp [f_are_burdens, b_are_burdens, shares_ints, eI_len, a1, a3, are_kinds_ok k f.sh bs 3 h]
structure Rule where
  next : Int
  rows : List (List Int)
def eRule (f : Fl) (r : Rule) : D := .tup [.int r.next, .lst f (r.rows.map (eRow f))]
def eLine (f : Fl) (l : List Rule) : D := .lst f (l.map (eRule f))
def eRules (f : Fl) (rs : List (List Rule)) : List D := rs.map (eLine f)
def eShow (f : Fl) (rows : List (List Int)) : D := .lst f (rows.map (eRow f))
def eShows (f : Fl) (ss : List (List (List Int))) : List D := ss.map (eShow f)
@[simp] theorem share_eRow (f : Fl) (xs : List Int) : share (eRow f xs) = eRow f.sh xs := share_row f xs
@[simp] theorem share_eRule (f : Fl) (r : Rule) : share (eRule f r) = eRule f.sh r := by simp [eRule, shares_rows]
theorem shares_eRule (f : Fl) (l : List Rule) : shares (l.map (eRule f)) = l.map (eRule f.sh) := by
  rw [shares_eq, List.map_map]; apply List.map_congr_left; intro r _; exact share_eRule f r
@[simp] theorem share_eLine (f : Fl) (l : List Rule) : share (eLine f l) = eLine f.sh l := by simp [eLine, shares_eRule]
@[simp] theorem shares_eRules (f : Fl) (rs : List (List Rule)) : shares (eRules f rs) = eRules f.sh rs := by
  unfold eRules; rw [shares_eq, List.map_map]; apply List.map_congr_left; intro r _; exact share_eLine f r
@[simp] theorem share_eShow (f : Fl) (l : List (List Int)) : share (eShow f l) = eShow f.sh l := by simp [eShow, shares_rows]
@[simp] theorem shares_eShows (f : Fl) (rs : List (List (List Int))) : shares (eShows f rs) = eShows f.sh rs := by
  unfold eShows; rw [shares_eq, List.map_map]; apply List.map_congr_left; intro r _; exact share_eShow f r
@[simp] theorem eRules_len (f : Fl) (rs : List (List Rule)) : (eRules f rs).length = rs.length := by simp [eRules]
@[simp] theorem eShows_len (f : Fl) (rs : List (List (List Int))) : (eShows f rs).length = rs.length := by simp [eShows]
/-- the data of a listener -/
structure LD where
  bs : List Int
  rules : List (List Rule)
  shows : List (List (List Int))
  cells : Nat
structure LD.Ok (L : LD) : Prop where
  k1 : 1 ≤ L.bs.length
  k3 : L.bs.length ≤ 3
  b : ∀ x ∈ L.bs, 0 ≤ x ∧ x < 3
  n1 : 1 ≤ L.rules.length
  n3 : L.rules.length ≤ 3
  c1 : 1 ≤ L.cells
  c3 : L.cells ≤ 3
  line : ∀ l ∈ L.rules, l.length = L.bs.length ∧ ∀ (j : Nat) (r : Rule), l[j]? = some r → 0 ≤ r.next ∧ r.next < L.rules.length ∧ r.rows.length = L.cells ∧ ∀ b : Int, L.bs[j]? = some b → ∀ w ∈ r.rows, (w.length : Int) = 1 + L.cells + b ∧ small w
  sh : L.shows.length = L.rules.length
  shw : ∀ s ∈ L.shows, s.length ≤ 2 ∧ smalls s (1 + L.cells)
theorem LD.Ok.first {L : LD} (h : L.Ok) : ∃ l ls r rs, L.rules = l :: ls ∧ l = r :: rs ∧ r.rows.length = L.cells := by
  cases e : L.rules with
  | nil => have := h.n1; rw [e] at this; simp at this
  | cons l ls =>
    have hl := h.line l (by rw [e]; simp)
    cases e2 : l with
    | nil => have := h.k1; rw [← hl.1, e2] at this; simp at this
    | cons r rs =>
      have := (hl.2 0 r (by rw [e2]; rfl)).2.2.1
      exact ⟨_, ls, r, rs, rfl, rfl, this⟩
theorem are_shows_ok (k : Nat) (L : LD) (h : L.Ok) : run T (k + 5) i_are_shows [.lst .shr (eShows .shr L.shows), .int L.rules.length, .int L.cells] = some (.bl true, [none, none, none]) := by
  rw [r_are_shows, runFn_eq rfl]; simp [f_are_shows, b_are_shows, eqD_int, h.sh]
  obtain ⟨x, e⟩ := forL_chk (i := 3) (ρ := [some (D.lst .shr (eShows .shr L.shows)), some (D.int L.rules.length), some (D.int L.cells), none]) (body := exSs (G (k + 4)) p_are_shows_l1) (items := eShows .shr L.shows) (x0 := none) (by simp) fun d hd => by
    obtain ⟨s, hs, rfl⟩ := List.mem_map.mp hd
    obtain ⟨q1, q2⟩ := h.shw s hs
    have q3 : ¬ (2 < (s.length : Int)) := by omega
    have q5 := are_rows_rows k .shr s s.length (1 + L.cells) (1 + L.cells) rfl (by omega) q2
    exact ⟨some (eShow .shr s), by simp [p_are_shows_l1, eShow, shares_rows, q3, q5]⟩
  simp at e
  simp [e]
theorem copied_ok (k : Nat) (f : Fl) (rs : List (List Int)) (hz : rs.length ≤ SZ) : run T (k + 1) i_copied [.lst f (rs.map (eRow f))] = some (.lst .own (rs.map (eRow .own)), [none]) := by
  rw [r_copied, runFn_eq rfl]; simp [f_copied, b_copied, shares_rows]
  rw [compL_map (ρ := [some (D.lst f.sh (rs.map (eRow f.sh))), none]) (fun d => match d with | .lst _ xs => .lst .own (shares xs) | d => d) (fun d hd => by
    obtain ⟨r, hr, rfl⟩ := List.mem_map.mp hd
    exact ⟨[some (D.lst f.sh (rs.map (eRow f.sh))), some (eRow f.sh r)], [some (D.lst f.sh (rs.map (eRow f.sh))), some (eRow f.sh r)], [some (D.lst f.sh (rs.map (eRow f.sh))), some (eRow f.sh r)], by simp, by simp, by simp [p_copied_c1, eRow, shares_ints], by simp⟩) (by simpa using hz)]
  simp [eRow, shares_ints]
theorem mulOk_small {a b : Int} (h : -9 ≤ a ∧ a ≤ 9) : mulOk a b = true := by
  unfold mulOk
  have : a.natAbs < 2 ^ 64 := by omega
  simp [this]
def dotI (xs ys : List Int) : Int := (List.zipWith (· * ·) xs ys).sum
theorem dot_ok (k : Nat) (f g : Fl) (xs ys : List Int) (hs : small xs) (hz : xs.length ≤ SZ) : run T (k + 1) i_dot [.lst f (eI xs), .lst g (eI ys)] = some (.int (dotI xs ys), [none, none]) := by
  rw [r_dot, runFn_eq rfl]; simp [f_dot, b_dot, shares_ints]
  have key := compL_mapT (bind := bindT (.names [2, 3])) (cond := evC (G k) .no) (elt := evE (G k) p_dot_c1) (vs := [2, 3]) (ρ := [some (D.lst f.sh (eI xs)), some (D.lst g.sh (eI ys)), none, none]) (fun p : Int × Int => .tup [.int p.1, .int p.2]) (fun p => .int (p.1 * p.2)) (xs.zip ys) (acc := []) (fun p hp => by
    have := hs p.1 (List.of_mem_zip hp).1
    refine ⟨[some (D.lst f.sh (eI xs)), some (D.lst g.sh (eI ys)), some (.int p.1), some (.int p.2)], ?_, by simp⟩
    simp [p_dot_c1, mulOk_small this]) (by simp only [List.length_zip, List.length_nil, SZ_val] at hz ⊢; omega)
  have ez : zipL (eI xs) (eI ys) = (xs.zip ys).map fun p => .tup [.int p.1, .int p.2] := zipL_map D.int D.int xs ys
  rw [ez, key]
  have ei : ∀ xs ys : List Int, intsD ((xs.zip ys).map (fun p => D.int (p.1 * p.2))) = some (List.zipWith (· * ·) xs ys) := by
    intro xs
    induction xs with
    | nil => intro ys; simp [intsD]
    | cons x xs ih =>
      intro ys
      cases ys with
      | nil => simp [intsD]
      | cons y ys =>
        have := ih ys
        simp only [List.zip_cons_cons, List.map_cons, intsD, this, List.zipWith_cons_cons, Option.map_some]
  simp only [List.nil_append, Option.map_some, Option.bind_some, bl_sum, Function.comp_apply, d1_mk, sumD_l, es_nil]
  rw [ei]
  simp [dotI]
theorem str_ne1 : (PySem.Str.ofString "rules" = PySem.Str.ofString "burdens") = False := by decide +kernel
theorem str_ne2 : (PySem.Str.ofString "shows" = PySem.Str.ofString "burdens") = False := by decide +kernel
theorem str_ne3 : (PySem.Str.ofString "shows" = PySem.Str.ofString "rules") = False := by decide +kernel
/-- hearing, over plain data -/
def LD.rule (L : LD) (c j : Nat) : Rule := (L.rules.getD c []).getD j ⟨0, []⟩
def heardI (L : LD) (s m : Int × List Int) : Int × List Int :=
  let r := L.rule s.1.toNat m.1.toNat
  (r.next, r.rows.map fun w => dotI w (1 :: (s.2 ++ m.2)))
structure StandOk (L : LD) (s : Int × List Int) : Prop where
  lo : 0 ≤ s.1
  hi : s.1 < L.rules.length
  n : s.2.length = L.cells
theorem rule_at {L : LD} (h : L.Ok) {s m : Int × List Int} (hs : StandOk L s) (hm : MsgOk L.bs m) : ∃ l, L.rules[s.1.toNat]? = some l ∧ l[m.1.toNat]? = some (L.rule s.1.toNat m.1.toNat) ∧ l ∈ L.rules := by
  have a : s.1.toNat < L.rules.length := by have := hs.lo; have := hs.hi; omega
  have e1 : L.rules[s.1.toNat]? = some L.rules[s.1.toNat] := List.getElem?_eq_getElem a
  have hl := h.line _ (List.getElem_mem a)
  have b : m.1.toNat < L.rules[s.1.toNat].length := by rw [hl.1]; have := hm.lt; omega
  refine ⟨_, e1, ?_, List.getElem_mem a⟩
  rw [List.getElem?_eq_getElem b]
  unfold LD.rule
  simp [a, b]
end K24

namespace K24
open FL
theorem MsgOk.len {L : LD} (h : L.Ok) {m : Int × List Int} (hm : MsgOk L.bs m) : m.2.length ≤ 2 := by
  obtain ⟨j, e, g⟩ := hm
  have := h.b _ (List.mem_of_getElem? g)
  omega
theorem rows_sm {L : LD} (h : L.Ok) {s m : Int × List Int} (hs : StandOk L s) (hm : MsgOk L.bs m) : 0 ≤ (L.rule s.1.toNat m.1.toNat).next ∧ (L.rule s.1.toNat m.1.toNat).next < L.rules.length ∧ (L.rule s.1.toNat m.1.toNat).rows.length = L.cells ∧ ∀ w ∈ (L.rule s.1.toNat m.1.toNat).rows, small w ∧ w.length = 1 + (s.2.length + m.2.length) := by
  obtain ⟨l, e1, e2, e3⟩ := rule_at h hs hm
  have hl := h.line l e3
  obtain ⟨q1, q2, q3, q4⟩ := hl.2 m.1.toNat _ e2
  obtain ⟨j, ej, gj⟩ := hm
  have tj : m.1.toNat = j := by omega
  rw [tj] at q1 q2 q3 q4 ⊢
  refine ⟨q1, q2, q3, fun w hw => ?_⟩
  have := q4 _ gj w hw
  have := hs.n
  exact ⟨(q4 _ gj w hw).2, by omega⟩
def seenI (L : LD) (s : Int × List Int) : List Int := (L.shows.getD s.1.toNat []).map fun w => dotI w (1 :: s.2)
theorem show_at {L : LD} (h : L.Ok) (f : Fl) {s : Int × List Int} (hs : StandOk L s) : L2.atI (eShows f L.shows) s.1 = some (eShow f (L.shows.getD s.1.toNat [])) ∧ (L.shows.getD s.1.toNat []).length ≤ 2 ∧ smalls (L.shows.getD s.1.toNat []) (1 + L.cells) := by
  have a : s.1.toNat < L.shows.length := by rw [h.sh]; have := hs.lo; have := hs.hi; omega
  have hw := h.shw (L.shows.getD s.1.toNat []) (by rw [List.getD_eq_getElem?_getD, List.getElem?_eq_getElem a]; exact List.getElem_mem a)
  refine ⟨?_, hw.1, hw.2⟩
  obtain ⟨j, hj⟩ : ∃ j : Nat, s.1 = j := ⟨s.1.toNat, by have := hs.lo; omega⟩
  rw [hj] at a ⊢
  rw [atI_nat]; unfold eShows
  simp at a
  rw [List.getElem?_map, List.getElem?_eq_getElem a]; simp [a]
end K24

namespace K24
open FL
structure Pool where
  a : Int
  b : Int
  c : Int
  d : Int
def eP (p : Pool) : D := .lst .own [.int p.a, .int p.b, .int p.c, .int p.d]
theorem pool_ok (k : Nat) (f : Fl) (ns : List Int) (j : Nat) : ∃ p, run T (k + 1) i_l_pool [.lst f (eI ns), .int (j : Int)] = some (eP p, [none, none]) := by
  rw [r_l_pool, runFn_eq rfl]
  have m1 : mulOk 104729 (j : Int) = true := by simp [mulOk]
  by_cases hj : j < ns.length
  · have e : L2.atI (eI ns) (j : Int) = some (.int ns[j]) := by rw [atI_nat, eI_get, List.getElem?_eq_getElem hj]; rfl
    by_cases h : (1000000000000000000 : Int) ≤ ns[j]
    · exact ⟨⟨ns[j] - 1000000000000000000, 0, 0, 1⟩, by simp [f_l_pool, b_l_pool, hj, e, h, eP]⟩
    · exact ⟨⟨0, 0, (ns[j] + 104729 * j) % 2147483647, 0⟩, by simp [f_l_pool, b_l_pool, hj, e, h, eP, m1]⟩
  · exact ⟨⟨0, 0, (0 + 104729 * j) % 2147483647, 0⟩, by simp [f_l_pool, b_l_pool, hj, eP, m1]⟩
def dn (p : Pool) : Int :=
  let x := (p.c + 7919 * (p.b + 1) + 1) * 48271 % 2147483647
  let y := x * (x / 1009 + 69621) % 2147483647
  y * (y / 2003 + 40692) % 2147483399
theorem draw_ok (k : Nat) (p : Pool) (n : Int) (h0 : 0 < n) (h1 : n < 2 ^ 64) : ∃ v p', run T (k + 1) i_l_draw [eP p, .int n] = some (.int v, [some (eP p'), none]) ∧ 0 ≤ v ∧ v < n := by
  rw [r_l_draw, runFn_eq rfl]
  have l1 : n.natAbs.log2 < 9000 := log2_small (by omega)
  by_cases h : p.d = 1
  · refine ⟨p.a % n, ⟨p.a / n, p.b, p.c, p.d⟩, ?_, Int.emod_nonneg _ (by omega), Int.emod_lt_of_pos _ h0⟩
    simp [f_l_draw, b_l_draw, eP, h, eqD_int, h0, l1]
  · have m1 : mulOk 7919 (p.b + 1) = true := by simp [mulOk]
    have m2 : ∀ z : Int, mulOk z 48271 = true := fun z => by simp [mulOk]
    have m3 : ∀ z y : Int, mulOk (z % 2147483647) y = true := fun z y => by
      have : (z % 2147483647).natAbs < 2 ^ 64 := by omega
      simp [mulOk, this]
    have l3 : Nat.log2 1009 < 9000 := by decide +kernel
    have l4 : Nat.log2 2003 < 9000 := by decide +kernel
    have l5 : Nat.log2 16 < 9000 := by decide +kernel
    refine ⟨dn p / 16 % n, ⟨p.a, p.b + 1, p.c, p.d⟩, ?_, Int.emod_nonneg _ (by omega), Int.emod_lt_of_pos _ h0⟩
    simp [f_l_draw, b_l_draw, eP, h, eqD_int, h0, l1, m1, m2, m3, l3, l4, l5, dn]
theorem number_ok (k : Nat) (p : Pool) : ∃ v p', run T (k + 2) i_l_number [eP p] = some (.int v, [some (eP p')]) := by
  rw [r_l_number, runFn_eq rfl]
  obtain ⟨v1, p1, e1, _, _⟩ := draw_ok k p 4 (by omega) (by omega)
  obtain ⟨v2, p2, e2, _, _⟩ := draw_ok k p1 2 (by omega) (by omega)
  obtain ⟨v3, p3, e3, g3, g4⟩ := draw_ok k p2 1000000000 (by omega) (by omega)
  obtain ⟨v4, p4, e4, _, _⟩ := draw_ok k p3 1000000000 (by omega) (by omega)
  have m : ∀ z, mulOk v3 z = true := fun z => by
    have : v3.natAbs < 2 ^ 64 := by omega
    simp [mulOk, this]
  by_cases h1 : v1 = 0
  · subst h1
    by_cases h2 : v2 = 1
    · subst h2; exact ⟨_, p3, by simp [f_l_number, b_l_number, e1, e2, e3, eqD_int]; rfl⟩
    · exact ⟨_, p3, by simp [f_l_number, b_l_number, e1, e2, e3, eqD_int, h2]; rfl⟩
  by_cases h1b : v1 = 1
  · subst h1b
    by_cases h2 : v2 = 1
    · subst h2; exact ⟨_, p3, by simp [f_l_number, b_l_number, e1, e2, e3, eqD_int]; rfl⟩
    · exact ⟨_, p3, by simp [f_l_number, b_l_number, e1, e2, e3, eqD_int, h2]; rfl⟩
  by_cases h1c : v1 = 3
  · subst h1c
    by_cases h2 : v2 = 1
    · subst h2; exact ⟨_, p4, by simp [f_l_number, b_l_number, e1, e2, e3, e4, m, eqD_int]; rfl⟩
    · exact ⟨_, p4, by simp [f_l_number, b_l_number, e1, e2, e3, e4, m, eqD_int, h2]; rfl⟩
  · by_cases h2 : v2 = 1
    · subst h2; exact ⟨_, p3, by simp [f_l_number, b_l_number, e1, e2, e3, eqD_int, h1, h1b, h1c]; rfl⟩
    · exact ⟨_, p3, by simp [f_l_number, b_l_number, e1, e2, e3, eqD_int, h1, h1b, h1c, h2]; rfl⟩
end K24

namespace K24
open FL
theorem small_set {xs : List Int} (h : small xs) (j : Nat) {v : Int} (hv : -9 ≤ v ∧ v ≤ 9) : small (xs.set j v) := by
  intro x hx
  rcases List.mem_or_eq_of_mem_set hx with h1 | rfl
  · exact h x h1
  · exact hv
structure RuleOk (N C : Nat) (b : Int) (r : Rule) : Prop where
  lo : 0 ≤ r.next
  hi : r.next < N
  len : r.rows.length = C
  rows : ∀ w ∈ r.rows, (w.length : Int) = 1 + C + b ∧ small w
end K24

namespace K24
open FL
def ePt (f g : Fl) (L : LD) : D := .lst f [.lst g (eI L.bs), .lst f (eRules f L.rules), .lst f (eShows f L.shows)]
@[simp] theorem share_ePt (f g : Fl) (L : LD) : share (ePt f g L) = ePt f.sh g.sh L := by simp [ePt]
end K24

namespace K24
open FL
theorem rows_list {G0 : Ctx} (i : Nat) (e : E) (ρ : Env) (he : ∀ (w : List Int), ((bindT (.name i) (eRow .shr w) ρ).bind fun ρ1 => evE G0 e ρ1) = some (eRow .own w, ρ.set i (some (eRow .shr w)))) (hw : ∀ d, wipeD (ρ.set i (some d)) [i] = ρ) (rs : List (List Int)) (hz : rs.length ≤ 1000) :
    compL (bindT (.name i)) (evC G0 .no) (evE G0 e) [i] (rs.map (eRow .shr)) ρ [] = some (rs.map (eRow .own), ρ) := by
  have := compL_mapT (bind := bindT (.name i)) (cond := evC G0 .no) (elt := evE G0 e) (vs := [i]) (ρ := ρ) (eRow .shr) (eRow .own) rs (acc := []) (fun w _ => ⟨_, by simpa using he w, hw _⟩) (by simp; omega)
  simpa using this
theorem range_dot (w v : List Int) (h : w.length = v.length) : ((List.range v.length).map fun k => w.getD k 0 * v.getD k 0) = List.zipWith (· * ·) w v := by
  apply List.ext_getElem
  · simp [h]
  · intro i h1 h2
    simp at h1 h2
    have h3 : i < w.length := by omega
    simp [h1, h3]
def ePtS (L : LD) : D := ePt .shr .shr L
end K24

namespace K24
open FL
open PySem (PyData)

theorem cat_eI (xs ys : List Int) (h : xs.length + ys.length ≤ 1000) : binD .add (.lst .own (eI xs)) (.lst .own (eI ys)) = some (.lst .own (eI (xs ++ ys))) := by
  have h' : (eI xs).length + (eI ys).length ≤ SZ := by rw [len_eI, len_eI, SZ_val]; omega
  rw [b_addL, if_pos ⟨by simp, by simp, h'⟩, shs_eI, shs_eI]
  unfold eI
  rw [List.map_append]
theorem toP_eI (xs : List Int) : toP.toPs (eI xs) = some (xs.map PyData.int) := by
  unfold eI
  induction xs with
  | nil => rfl
  | cons x xs ih => simp [toP.toPs, toP, ih]
theorem lay_ints (xs : List Int) : PyData.canLayAll0 (xs.map PyData.int) = true := by
  induction xs with
  | nil => rfl
  | cons x xs ih => simp [PyData.canLayAll0, PyData.canLay0, ih]
theorem dep_ints (xs : List Int) : PyData.depthAll (xs.map PyData.int) = 0 := by
  induction xs with
  | nil => rfl
  | cons x xs ih => simp [PyData.depthAll, PyData.depth, ih]
theorem eqv_ints (xs : List Int) : PyData.eqvAll (xs.map PyData.int) (xs.map PyData.int) = true := by
  induction xs with
  | nil => rfl
  | cons x xs ih => simp [PyData.eqvAll, PyData.eqv, ih]
theorem eq_ints (xs : List Int) : eqD (.tup (eI xs)) (.tup (eI xs)) = some true := by
  simp [eqD, toP, toP_eI, PySem.SeqAt.shaped, PyData.canLay0, PyData.depth, PyData.eqv, lay_ints, dep_ints, eqv_ints]
theorem lint_ok (k : Nat) (a : Int) : run T (k + 1) i_l_is_integer [.int a] = some (.bl true, [none]) := by
  rw [r_l_is_integer, runFn_eq rfl]; simp [f_l_is_integer, b_l_is_integer]
end K24

namespace K24
open FL
theorem cstep {Γ : FL.Ctx} {bind : D → Env → Option Env} {elt : Env → Option (D × Env)} {d y : D} {ρ ρ1 ρ3 : Env} (h1 : bind d ρ = some ρ1) (h2 : elt ρ1 = some (y, ρ3)) : ((bind d ρ).bind fun ρ1 => (evC Γ .no ρ1).bind fun p => if p.1 = true then elt p.2 else none) = some (y, ρ3) := by
  rw [h1]; simp [h2]
theorem call_ok {Γ : FL.Ctx} {f : Nat} {as : As} {vs : List (Option D)} {ds : List D} {y : D} {os : List (Option D)} {ρ ρ1 ρ2 ρ3 : Env} (h1 : evAs Γ as ρ = some (vs, ρ1)) (h2 : takeA as vs ρ1 = some (ds, ρ2)) (h3 : Γ.fs f ds = some (y, os)) (h4 : putA as os ρ2 = some ρ3) : evE Γ (.call f as) ρ = some (y, ρ3) := by
  rw [e_call, h1]; simp [h2, h3, h4]
end K24

namespace K24
open FL
theorem heard_stand {L : LD} (h : L.Ok) {s m : Int × List Int} (hs : StandOk L s) (hm : MsgOk L.bs m) : StandOk L (heardI L s m) := by
  obtain ⟨q1, q2, q3, q4⟩ := rows_sm h hs hm
  exact ⟨q1, q2, by simp [heardI, q3]⟩
def hearsI (L : LD) (s : Int × List Int) (ms : List (Int × List Int)) : Int × List Int := ms.foldl (heardI L) s
theorem hears_stand {L : LD} (h : L.Ok) : ∀ {ms : List (Int × List Int)} {s : Int × List Int}, StandOk L s → (∀ m ∈ ms, MsgOk L.bs m) → StandOk L (hearsI L s ms)
  | [], s, hs, _ => hs
  | m :: ms, s, hs, hm => hears_stand h (ms := ms) (heard_stand h hs (hm m (by simp))) fun x hx => hm x (by simp [hx])
theorem eq_msgs (f g : Fl) (a b : List (Int × List Int)) : eqD (.lst f (a.map eStand)) (.lst g (b.map eStand)) = some (decide (a = b)) := by
  have h : EqE eStand eStand 2 (fun a b => decide (a = b)) := (eqE_pairQ (eqE_int.mono (by omega)) eqE_tupI).cg (fun _ => rfl) (fun _ => rfl) fun _ _ => rfl
  exact (eqE_lstQ f g h).eqD (by omega) a b
theorem at_msgs (g : Fl) (ms : List (Int × List Int)) (j : Nat) (m : Int × List Int) (h : ms[j]? = some m) : idxD (.lst g (ms.map eStand)) (.int (j : Int)) = some (eStand m) := by
  rw [idx_l, atI_nat, List.getElem?_map, h]; simp
theorem hears_take {L : LD} {s : Int × List Int} {ms : List (Int × List Int)} {j : Nat} {m : Int × List Int} (h : ms[j]? = some m) : heardI L (hearsI L s (ms.take j)) m = hearsI L s (ms.take (j + 1)) := by
  unfold hearsI
  rw [List.take_add_one, h]; simp
theorem hears_cut {L : LD} {s : Int × List Int} {ms : List (Int × List Int)} (c : Nat) : hearsI L (hearsI L s (ms.take c)) (ms.drop c) = hearsI L s ms := by
  unfold hearsI
  rw [← List.foldl_append, List.take_append_drop]
end K24

namespace K24
open FL
/-- total + factor * line -/
def axpy (t : List Int) (p : Int × List Int) : List Int := List.zipWith (fun o x => o + p.1 * x) t p.2
def compI (row : List Int) (lines : List (List Int)) (W : Nat) : List Int := (((row.drop 1).take lines.length).zip lines).foldl axpy (row.getD 0 0 :: List.replicate (W - 1) 0)
theorem axpy_len {t : List Int} {p : Int × List Int} {W : Nat} (h1 : t.length = W) (h2 : p.2.length = W) : (axpy t p).length = W := by simp [axpy, h1, h2]
theorem comp_len : ∀ {l : List (Int × List Int)} {t : List Int} {W : Nat}, t.length = W → (∀ p ∈ l, p.2.length = W) → (l.foldl axpy t).length = W
  | [], t, W, h, _ => h
  | p :: l, t, W, h, hl => comp_len (l := l) (axpy_len h (hl p (by simp))) fun q hq => hl q (by simp [hq])
theorem zip_rows (xs : List Int) (f : Fl) (rs : List (List Int)) : zipL (eI xs) (rs.map (eRow f)) = (xs.zip rs).map fun p => .tup [.int p.1, eRow f p.2] := zipL_map D.int (eRow f) xs rs
theorem slc_mid (f : Fl) (xs : List D) (a b : Nat) (h : a ≤ b) (hb : b ≤ xs.length) : slcD (.lst f xs) (some (a : Int)) (some (b : Int)) = some (.lst .own (((shares xs).drop a).take (b - a))) := by
  simp only [slcD, cutD, HT.sIx_nat, len_shares]
  rw [Nat.min_eq_left hb, Nat.min_eq_left (show a ≤ xs.length by omega)]
theorem closed_eI (xs : List Int) : closedL (eI xs) = true := by rw [closedL_all]; simp [eI]
def idL (c : Nat) : List (List Int) := (List.range c).map fun i => (List.range (c + 1)).map fun e => if e = i + 1 then 1 else 0
/-- a word's step -/
def wstep (L : LD) (st : Int × List (List Int)) (k : Int) : Int × List (List Int) :=
  let r := L.rule st.1.toNat k.toNat
  (r.next, r.rows.map fun row => compI row st.2 (st.2.getD 0 []).length ++ row.drop (1 + L.cells))
def wordI (L : LD) (c : Int) (w : List Int) : Int × List (List Int) := w.foldl (wstep L) (c, idL L.cells)
/-- rows of one width -/
structure WOk (L : LD) (st : Int × List (List Int)) (W : Nat) : Prop where
  lo : 0 ≤ st.1
  hi : st.1 < L.rules.length
  n : st.2.length = L.cells
  w : ∀ l ∈ st.2, l.length = W
  W1 : 1 ≤ W
def kindOk (L : LD) (k : Int) : Prop := 0 ≤ k ∧ k < L.bs.length
theorem kind_rule {L : LD} (h : L.Ok) {c k : Int} (h1 : 0 ≤ c) (h2 : c < L.rules.length) (hk : kindOk L k) : ∃ l, L.rules[c.toNat]? = some l ∧ l[k.toNat]? = some (L.rule c.toNat k.toNat) ∧ 0 ≤ (L.rule c.toNat k.toNat).next ∧ (L.rule c.toNat k.toNat).next < L.rules.length ∧ (L.rule c.toNat k.toNat).rows.length = L.cells ∧ ∀ w ∈ (L.rule c.toNat k.toNat).rows, small w ∧ (w.length : Int) = 1 + L.cells + L.bs.getD k.toNat 0 := by
  have a : c.toNat < L.rules.length := by omega
  have hl := h.line (L.rules[c.toNat]) (List.getElem_mem a)
  have hb : k.toNat < L.bs.length := by have := hk.1; have := hk.2; omega
  have b : k.toNat < (L.rules[c.toNat]).length := by rw [hl.1]; exact hb
  have er : L.rule c.toNat k.toNat = (L.rules[c.toNat])[k.toNat] := by
    unfold LD.rule
    rw [List.getD_eq_getElem?_getD, List.getD_eq_getElem?_getD, List.getElem?_eq_getElem a]
    simp [b]
  have eg : (L.rules[c.toNat])[k.toNat]? = some (L.rule c.toNat k.toNat) := by rw [er]; exact List.getElem?_eq_getElem b
  obtain ⟨q1, q2, q3, q4⟩ := hl.2 k.toNat _ eg
  refine ⟨_, List.getElem?_eq_getElem a, eg, q1, q2, q3, fun w hw => ?_⟩
  have := q4 _ (List.getElem?_eq_getElem hb) w hw
  refine ⟨this.2, ?_⟩
  rw [List.getD_eq_getElem?_getD, List.getElem?_eq_getElem hb]
  simpa using this.1
theorem wstep_ok {L : LD} (h : L.Ok) {st : Int × List (List Int)} {W : Nat} (hw : WOk L st W) {k : Int} (hk : kindOk L k) : WOk L (wstep L st k) (W + (L.bs.getD k.toNat 0).toNat) := by
  obtain ⟨l, e1, e2, q1, q2, q3, q4⟩ := kind_rule h hw.lo hw.hi hk
  have hc1 := h.c1
  have h0 : (st.2.getD 0 []).length = W := by
    have : 0 < st.2.length := by rw [hw.n]; omega
    rw [List.getD_eq_getElem?_getD, List.getElem?_eq_getElem this]
    exact hw.w _ (List.getElem_mem this)
  have hb : 0 ≤ L.bs.getD k.toNat 0 := by
    have hb : k.toNat < L.bs.length := by have := hk.1; have := hk.2; omega
    rw [List.getD_eq_getElem?_getD, List.getElem?_eq_getElem hb]
    exact (h.b _ (List.getElem_mem hb)).1
  refine ⟨q1, q2, by simp [wstep, q3], fun r hr => ?_, by have := hw.W1; omega⟩
  obtain ⟨row, hrow, rfl⟩ := List.mem_map.mp hr
  have hcl : (compI row st.2 (st.2.getD 0 []).length).length = W := by
    rw [h0]
    exact comp_len (by simp; have := hw.W1; omega) fun p hp => hw.w p.2 (List.of_mem_zip hp).2
  have := (q4 row hrow).2
  rw [List.length_append, hcl, List.length_drop]
  omega
theorem idL_ok {L : LD} {c : Int} (h1 : 0 ≤ c) (h2 : c < L.rules.length) : WOk L (c, idL L.cells) (1 + L.cells) := by
  refine ⟨h1, h2, by simp [idL], fun l hl => ?_, by omega⟩
  obtain ⟨i, _, rfl⟩ := List.mem_map.mp hl
  simp; omega
def carr (L : LD) (w : List Int) : Nat := (w.map fun k => (L.bs.getD k.toNat 0).toNat).sum
theorem word_okFrom {L : LD} (h : L.Ok) : ∀ {w : List Int} {st : Int × List (List Int)} {W : Nat}, WOk L st W → (∀ k ∈ w, kindOk L k) → WOk L (w.foldl (wstep L) st) (W + carr L w)
  | [], st, W, hw, _ => hw
  | k :: w, st, W, hw, hk => by
    have := word_okFrom h (w := w) (wstep_ok h hw (hk k (by simp))) fun x hx => hk x (by simp [hx])
    have e : W + carr L (k :: w) = W + (L.bs.getD k.toNat 0).toNat + carr L w := by simp [carr]; omega
    rw [e]; exact this
theorem word_ok {L : LD} (h : L.Ok) {c : Int} (h1 : 0 ≤ c) (h2 : c < L.rules.length) {w : List Int} (hk : ∀ k ∈ w, kindOk L k) : WOk L (wordI L c w) (1 + L.cells + carr L w) := word_okFrom h (idL_ok h1 h2) hk
theorem carr_le {L : LD} (h : L.Ok) : ∀ w : List Int, carr L w ≤ 2 * w.length
  | [] => by simp [carr]
  | k :: w => by
    have := carr_le h w
    have hb : (L.bs.getD k.toNat 0).toNat ≤ 2 := by
      by_cases hb : k.toNat < L.bs.length
      · rw [List.getD_eq_getElem?_getD, List.getElem?_eq_getElem hb]
        have := (h.b _ (List.getElem_mem hb)).2
        simp only [Option.getD_some]; omega
      · rw [List.getD_eq_getElem?_getD, List.getElem?_eq_none (by omega)]; simp
    simp only [carr, List.map_cons, List.sum_cons, List.length_cons] at this ⊢
    omega
def eWM (f : Fl) (st : Int × List (List Int)) : D := .tup [.int st.1, .lst f (st.2.map (eRow f))]
end K24

namespace K24
open FL
theorem dotI_cons (a b : Int) (xs ys : List Int) : dotI (a :: xs) (b :: ys) = a * b + dotI xs ys := by simp [dotI]
theorem dotI_nil (ys : List Int) : dotI [] ys = 0 := by simp [dotI]
theorem dotI_nil2 (ys : List Int) : dotI ys [] = 0 := by simp [dotI]
theorem dotI_app : ∀ {xs ys : List Int} (xs' ys' : List Int), xs.length = ys.length → dotI (xs ++ xs') (ys ++ ys') = dotI xs ys + dotI xs' ys'
  | [], [], xs', ys', _ => by simp [dotI_nil]
  | x :: xs, y :: ys, xs', ys', h => by
    rw [List.cons_append, List.cons_append, dotI_cons, dotI_cons, dotI_app (xs := xs) xs' ys' (by simpa using h)]; omega
theorem dotI_axpy (f : Int) : ∀ (t l v : List Int), t.length = v.length → l.length = v.length → dotI (axpy t (f, l)) v = dotI t v + f * dotI l v := by
  intro t
  induction t with
  | nil => intro l v h1 h2; cases v with
    | nil => simp [axpy, dotI]
    | cons c v => simp at h1
  | cons a t ih =>
    intro l v h1 h2
    cases v with
    | nil => simp at h1
    | cons c v =>
      cases l with
      | nil => simp at h2
      | cons b l =>
        have ih := ih l v (by simpa using h1) (by simpa using h2)
        simp only [axpy] at ih
        simp only [axpy, List.zipWith_cons_cons, dotI_cons, ih, Int.add_mul, Int.mul_add, Int.mul_assoc]
        omega
theorem dotI_zeros : ∀ (n : Nat) (v : List Int), dotI (List.replicate n 0) v = 0
  | 0, v => by simp [dotI_nil]
  | n + 1, [] => by simp [dotI_nil2]
  | n + 1, a :: v => by simp [List.replicate_succ, dotI_cons, dotI_zeros n v]
theorem dot_fold : ∀ (ps : List (Int × List Int)) {t v : List Int}, t.length = v.length → (∀ p ∈ ps, p.2.length = v.length) → dotI (ps.foldl axpy t) v = dotI t v + dotI (ps.map (·.1)) (ps.map fun p => dotI p.2 v)
  | [], t, v, _, _ => by simp [dotI_nil]
  | (f, l) :: ps, t, v, h, hp => by
    have hl := hp (f, l) (by simp)
    simp only at hl
    rw [List.foldl_cons, dot_fold ps (axpy_len h hl) (fun p hq => hp p (by simp [hq])), dotI_axpy f _ _ _ h hl]
    simp only [List.map_cons, dotI_cons]
    omega
theorem dot_comp {row : List Int} {lines : List (List Int)} {vs : List Int} {W : Nat} (v0 : Int) (hW : W = vs.length + 1) (hl : ∀ l ∈ lines, l.length = W) (hr : 1 + lines.length ≤ row.length) :
    dotI (compI row lines W) (v0 :: vs) = row.getD 0 0 * v0 + dotI ((row.drop 1).take lines.length) (lines.map fun l => dotI l (v0 :: vs)) := by
  unfold compI
  rw [dot_fold _ (by simp; omega) (fun p hp => by rw [hl p.2 (List.of_mem_zip hp).2, hW]; simp), dotI_cons, dotI_zeros]
  have hlen : ((row.drop 1).take lines.length).length = lines.length := by simp; omega
  have e1 : (((row.drop 1).take lines.length).zip lines).map (·.1) = (row.drop 1).take lines.length := List.map_fst_zip (by omega)
  have e2 : (((row.drop 1).take lines.length).zip lines).map (fun p => dotI p.2 (v0 :: vs)) = lines.map fun l => dotI l (v0 :: vs) := by
    have := List.map_snd_zip (l₁ := (row.drop 1).take lines.length) (l₂ := lines) (by omega)
    conv => rhs; rw [← this]
    rw [List.map_map]; rfl
  rw [e1, e2]
  omega
theorem dot_row {row x n : List Int} (h : 1 + x.length ≤ row.length) : dotI row (1 :: (x ++ n)) = row.getD 0 0 + dotI ((row.drop 1).take x.length) x + dotI (row.drop (1 + x.length)) n := by
  cases row with
  | nil => simp at h
  | cons r0 rr =>
    simp only [List.length_cons] at h
    rw [dotI_cons]
    have e : rr = rr.take x.length ++ rr.drop x.length := (List.take_append_drop _ _).symm
    conv => lhs; rw [e]
    rw [dotI_app _ _ (by simp; omega)]
    simp only [List.getD_cons_zero, List.drop_succ_cons, List.drop_zero, Int.mul_one]
    rw [Nat.add_comm 1, List.drop_succ_cons]
    omega
structure WV (L : LD) (st : Int × List (List Int)) (v : List Int) (due : Int × List Int) : Prop where
  c : st.1 = due.1
  w : WOk L st v.length
  v0 : ∃ vs, v = 1 :: vs
  val : (st.2.map fun l => dotI l v) = due.2
theorem msg_kind {L : LD} {m : Int × List Int} (hm : MsgOk L.bs m) : kindOk L m.1 ∧ L.bs.getD m.1.toNat 0 = m.2.length := by
  obtain ⟨j, e, g⟩ := hm
  have hj := (List.getElem?_eq_some_iff.mp g).1
  refine ⟨⟨by omega, by omega⟩, ?_⟩
  have : m.1.toNat = j := by omega
  rw [this, List.getD_eq_getElem?_getD, g]; rfl
theorem wv_step {L : LD} (h : L.Ok) {st : Int × List (List Int)} {v : List Int} {due m : Int × List Int} (H : WV L st v due) (hs : StandOk L due) (hm : MsgOk L.bs m) : WV L (wstep L st m.1) (v ++ m.2) (heardI L due m) := by
  obtain ⟨hk, hb⟩ := msg_kind hm
  obtain ⟨vs, hv⟩ := H.v0
  obtain ⟨l, e1, e2, q1, q2, q3, q4⟩ := kind_rule h H.w.lo H.w.hi hk
  have hc1 := h.c1
  have hn := H.w.n
  have h0 : (st.2.getD 0 []).length = v.length := by
    have : 0 < st.2.length := by rw [hn]; omega
    rw [List.getD_eq_getElem?_getD, List.getElem?_eq_getElem this]
    exact H.w.w _ (List.getElem_mem this)
  have hsn := hs.n
  refine ⟨by simp [wstep, heardI, H.c], ?_, ⟨vs ++ m.2, by rw [hv]; rfl⟩, ?_⟩
  · have := wstep_ok h H.w hk
    rw [hb] at this
    rw [List.length_append]
    simpa using this
  · simp only [wstep, heardI, List.map_map]
    rw [← H.c]
    apply List.map_congr_left
    intro row hrow
    obtain ⟨s1, s2⟩ := q4 row hrow
    simp only [Function.comp_apply]
    rw [h0]
    have hcl : (compI row st.2 v.length).length = v.length := comp_len (by simp; have := H.w.W1; omega) fun p hp => H.w.w p.2 (List.of_mem_zip hp).2
    rw [dotI_app _ _ hcl, dot_row (by rw [hsn]; omega)]
    have hvl : v.length = vs.length + 1 := by rw [hv]; simp
    have := dot_comp (row := row) (lines := st.2) (vs := vs) (W := v.length) 1 hvl H.w.w (by rw [hn]; omega)
    rw [← hv, H.val] at this
    rw [this, hsn, hn]
    omega
theorem wv_all {L : LD} (h : L.Ok) : ∀ {ms : List (Int × List Int)} {st : Int × List (List Int)} {v : List Int} {due : Int × List Int}, WV L st v due → StandOk L due → (∀ m ∈ ms, MsgOk L.bs m) → WV L ((ms.map (·.1)).foldl (wstep L) st) (v ++ (ms.map (·.2)).flatten) (hearsI L due ms)
  | [], st, v, due, H, _, _ => by simpa [hearsI] using H
  | m :: ms, st, v, due, H, hs, hm => by
    have hm0 := hm m (by simp)
    have := wv_all h (ms := ms) (wv_step h H hs hm0) (heard_stand h hs hm0) fun x hx => hm x (by simp [hx])
    simpa [hearsI, List.append_assoc] using this
theorem dot_unit : ∀ (x : List Int) (i : Nat), i < x.length → dotI ((List.range x.length).map fun e => if e = i then 1 else 0) x = x.getD i 0 := by
  intro x
  induction x with
  | nil => intro i h; simp at h
  | cons a x ih =>
    intro i h
    rw [List.length_cons, List.range_succ_eq_map, List.map_cons, List.map_map, dotI_cons]
    cases i with
    | zero =>
      have : (List.range x.length).map ((fun e => if e = 0 then (1 : Int) else 0) ∘ Nat.succ) = List.replicate x.length 0 := by
        apply List.ext_getElem <;> simp
      rw [this, dotI_zeros]; simp
    | succ i =>
      have : (List.range x.length).map ((fun e => if e = i + 1 then (1 : Int) else 0) ∘ Nat.succ) = (List.range x.length).map fun e => if e = i then 1 else 0 := by
        apply List.map_congr_left; intro e _; simp
      rw [this, ih i (by simpa using h)]; simp
theorem wv_start {L : LD} (h : L.Ok) {s : Int × List Int} (hs : StandOk L s) : WV L (s.1, idL L.cells) (1 :: s.2) s := by
  have hn := hs.n
  refine ⟨rfl, ?_, ⟨s.2, rfl⟩, ?_⟩
  · have := idL_ok (L := L) hs.lo hs.hi
    rw [List.length_cons, hn]
    rwa [Nat.add_comm] at this
  · apply List.ext_getElem
    · simp [idL, hn]
    · intro i h1 h2
      simp only [idL, List.map_map, List.length_map, List.length_range] at h1
      simp only [idL, List.getElem_map, List.getElem_range]
      have := dot_unit (1 :: s.2) (i + 1) (by simp [hn]; omega)
      rw [List.length_cons, hn] at this
      rw [this]
      simp [h2]
theorem word_val {L : LD} (h : L.Ok) {s : Int × List Int} (hs : StandOk L s) {ms : List (Int × List Int)} (hm : ∀ m ∈ ms, MsgOk L.bs m) : WV L (wordI L s.1 (ms.map (·.1))) (1 :: (s.2 ++ (ms.map (·.2)).flatten)) (hearsI L s ms) := wv_all h (wv_start h hs) hs hm
/-! bounds -/
def bnd_ (B : Nat) (xs : List Int) : Prop := ∀ x ∈ xs, x.natAbs ≤ B
theorem bnd_axpy {B C : Nat} {t l : List Int} {f : Int} (ht : bnd_ B t) (hl : bnd_ C l) (hf : -9 ≤ f ∧ f ≤ 9) : bnd_ (B + 9 * C) (axpy t (f, l)) := by
  intro x hx
  simp only [axpy] at hx
  obtain ⟨i, hi, rfl⟩ := List.getElem_of_mem hx
  simp only [List.getElem_zipWith]
  simp only [List.length_zipWith] at hi
  have h1 := ht t[i] (List.getElem_mem (by omega))
  have h2 := hl l[i] (List.getElem_mem (by omega))
  have h3 : (f * l[i]).natAbs ≤ 9 * C := by
    rw [Int.natAbs_mul]
    exact Nat.mul_le_mul (by omega) h2
  have := Int.natAbs_add_le t[i] (f * l[i])
  omega
theorem bnd_fold {C : Nat} : ∀ {ps : List (Int × List Int)} {t : List Int} {B : Nat}, bnd_ B t → (∀ p ∈ ps, (-9 ≤ p.1 ∧ p.1 ≤ 9) ∧ bnd_ C p.2) → bnd_ (B + 9 * C * ps.length) (ps.foldl axpy t)
  | [], t, B, ht, _ => by simpa using ht
  | (f, l) :: ps, t, B, ht, hp => by
    obtain ⟨h1, h2⟩ := hp (f, l) (by simp)
    have := bnd_fold (C := C) (ps := ps) (bnd_axpy ht h2 h1) fun p hq => hp p (by simp [hq])
    have e : B + 9 * C * ((f, l) :: ps).length = B + 9 * C + 9 * C * ps.length := by rw [List.length_cons, Nat.mul_add]; omega
    rw [e]; exact this
theorem bnd_step {L : LD} (h : L.Ok) {st : Int × List (List Int)} {W C : Nat} (hw : WOk L st W) {k : Int} (hk : kindOk L k) (hC : 1 ≤ C) (hb : ∀ l ∈ st.2, bnd_ C l) : ∀ l ∈ (wstep L st k).2, bnd_ (36 * C) l := by
  obtain ⟨l0, e1, e2, q1, q2, q3, q4⟩ := kind_rule h hw.lo hw.hi hk
  intro l hl
  simp only [wstep] at hl
  obtain ⟨row, hrow, rfl⟩ := List.mem_map.mp hl
  obtain ⟨s1, s2⟩ := q4 row hrow
  intro x hx
  rcases List.mem_append.mp hx with hx | hx
  · have hlen : (((row.drop 1).take st.2.length).zip st.2).length ≤ 3 := by
      have := h.c3; have := hw.n
      simp; omega
    have r0 : (row.getD 0 0).natAbs ≤ 9 := by
      cases row with
      | nil => simp
      | cons a b => have := s1 a (by simp); simp; omega
    have := bnd_fold (C := C) (ps := ((row.drop 1).take st.2.length).zip st.2) (t := row.getD 0 0 :: List.replicate ((st.2.getD 0 []).length - 1) 0) (B := 9) (fun y hy => by
      rcases List.mem_cons.mp hy with rfl | hy
      · exact r0
      · rw [List.eq_of_mem_replicate hy]; simp) (fun p hp => ⟨s1 p.1 (List.mem_of_mem_drop (List.mem_of_mem_take (List.of_mem_zip hp).1)), hb p.2 (List.of_mem_zip hp).2⟩) x hx
    have : 9 * C * (((row.drop 1).take st.2.length).zip st.2).length ≤ 9 * C * 3 := Nat.mul_le_mul_left _ hlen
    omega
  · have := s1 x (List.mem_of_mem_drop hx)
    omega
theorem bnd_word {L : LD} (h : L.Ok) : ∀ {w : List Int} {st : Int × List (List Int)} {W C : Nat}, WOk L st W → (∀ k ∈ w, kindOk L k) → 1 ≤ C → (∀ l ∈ st.2, bnd_ C l) → ∀ l ∈ (w.foldl (wstep L) st).2, bnd_ (36 ^ w.length * C) l
  | [], st, W, C, _, _, _, hb => by simpa using hb
  | k :: w, st, W, C, hw, hk, hC, hb => by
    have hk0 := hk k (by simp)
    have := bnd_word h (w := w) (wstep_ok h hw hk0) (fun x hx => hk x (by simp [hx])) (C := 36 * C) (by omega) (bnd_step h hw hk0 hC hb)
    have e : 36 ^ (k :: w).length * C = 36 ^ w.length * (36 * C) := by rw [List.length_cons, Nat.pow_succ, Nat.mul_assoc]
    rw [e]; exact this
theorem word_bnd {L : LD} (h : L.Ok) {c : Int} (h1 : 0 ≤ c) (h2 : c < L.rules.length) {w : List Int} (hk : ∀ k ∈ w, kindOk L k) (hw : w.length ≤ 12) : ∀ l ∈ (wordI L c w).2, ∀ x ∈ l, x.natAbs < 2 ^ 64 := by
  intro l hl x hx
  have := bnd_word h (idL_ok h1 h2) hk (Nat.le_refl 1) (fun l hl y hy => by
    simp only [idL] at hl
    obtain ⟨i, _, rfl⟩ := List.mem_map.mp hl
    obtain ⟨e, _, rfl⟩ := List.mem_map.mp hy
    split <;> simp) l hl x hx
  have h3 : 36 ^ w.length ≤ 36 ^ 12 := Nat.pow_le_pow_right (by omega) hw
  have h4 : 36 ^ 12 < 2 ^ 64 := by decide
  omega
end K24

namespace K24
open FL
open PySem (PyData)
/-! start, [control, kind], == -/
instance decRule : DecidableEq Rule := fun a b => if h : a.next = b.next ∧ a.rows = b.rows then isTrue (by obtain ⟨a1, a2⟩ := a; obtain ⟨b1, b2⟩ := b; simp only at h; rw [h.1, h.2]) else isFalse (fun e => h ⟨by rw [e], by rw [e]⟩)
theorem eqE_rule (f g : Fl) : EqE (eRule f) (eRule g) 3 (fun a b => decide (a = b)) := by
  have h := eqE_pairQ (eqE_int.mono (Nat.zero_le 2)) (eqE_lstQ f g (eqE_ints f g))
  refine ⟨fun a => h.ga (a.next, a.rows), fun b => h.gb (b.next, b.rows), fun a b p q e1 e2 => ?_⟩
  rw [h.eq (a.next, a.rows) (b.next, b.rows) p q e1 e2]
  obtain ⟨a1, a2⟩ := a
  obtain ⟨b1, b2⟩ := b
  simp
theorem eqE_line (f g : Fl) : EqE (eLine f) (eLine g) 4 (fun a b => decide (a = b)) := eqE_lstQ f g (eqE_rule f g)
theorem eqE_rules (f g : Fl) : EqE (fun r => D.lst f (eRules f r)) (fun r => D.lst g (eRules g r)) 5 (fun a b => decide (a = b)) := eqE_lstQ f g (eqE_line f g)
theorem eqE_show (f g : Fl) : EqE (eShow f) (eShow g) 2 (fun a b => decide (a = b)) := eqE_lstQ f g (eqE_ints f g)
theorem eqE_shows (f g : Fl) : EqE (fun r => D.lst f (eShows f r)) (fun r => D.lst g (eShows g r)) 3 (fun a b => decide (a = b)) := eqE_lstQ f g (eqE_show f g)
theorem eqD_bs (f g : Fl) (a b : List Int) : eqD (.lst f (eI a)) (.lst g (eI b)) = some (decide (a = b)) := (eqE_ints f g).eqD (by omega) a b
theorem eqD_rules (f g : Fl) (a b : List (List Rule)) : eqD (.lst f (eRules f a)) (.lst g (eRules g b)) = some (decide (a = b)) := (eqE_rules f g).eqD (by omega) a b
theorem eqD_shows (f g : Fl) (a b : List (List (List Int))) : eqD (.lst f (eShows f a)) (.lst g (eShows g b)) = some (decide (a = b)) := (eqE_shows f g).eqD (by omega) a b
theorem eqD_rule (f g : Fl) (a b : Rule) : eqD (eRule f a) (eRule g b) = some (decide (a = b)) := (eqE_rule f g).eqD (by omega) a b
theorem eqD_rows (f g : Fl) (a b : List (List Int)) : eqD (.lst f (a.map (eRow f))) (.lst g (b.map (eRow g))) = some (decide (a = b)) := (eqE_show f g).eqD (by omega) a b
/-- the parts of two listeners are equal -/
def sameB (L L' : LD) : Bool := decide (L.bs = L'.bs) && (decide (L.rules = L'.rules) && decide (L.shows = L'.shows))
theorem eqD_parts (f g f' g' : Fl) (L L' : LD) : eqD (ePt f g L) (ePt f' g' L') = some (sameB L L') := by
  have h1 := eqE_ints g g'
  have h2 := eqE_rules f f'
  have h3 := eqE_shows f f'
  obtain ⟨p1, a1, b1, c1⟩ := h1.ga L.bs
  obtain ⟨p2, a2, b2, c2⟩ := h2.ga L.rules
  obtain ⟨p3, a3, b3, c3⟩ := h3.ga L.shows
  obtain ⟨q1, d1, e1, f1⟩ := h1.gb L'.bs
  obtain ⟨q2, d2, e2, f2⟩ := h2.gb L'.rules
  obtain ⟨q3, d3, e3, f3⟩ := h3.gb L'.shows
  have z1 := h1.eq _ _ _ _ a1 d1
  have z2 := h2.eq _ _ _ _ a2 d2
  have z3 := h3.eq _ _ _ _ a3 d3
  have t1 : toP (ePt f g L) = some (.list [p1, p2, p3]) := by
    have e : toP (ePt f g L) = (toP.toPs [.lst g (eI L.bs), .lst f (eRules f L.rules), .lst f (eShows f L.shows)]).map .list := by unfold ePt; simp only [toP]
    rw [e]
    simp only [eRow] at a1
    simp only [toP.toPs, a1, a2, a3, Option.bind_some, Option.map_some]
  have t2 : toP (ePt f' g' L') = some (.list [q1, q2, q3]) := by
    have e : toP (ePt f' g' L') = (toP.toPs [.lst g' (eI L'.bs), .lst f' (eRules f' L'.rules), .lst f' (eShows f' L'.shows)]).map .list := by unfold ePt; simp only [toP]
    rw [e]
    simp only [eRow] at d1
    simp only [toP.toPs, d1, d2, d3, Option.bind_some, Option.map_some]
  have s1 : PySem.SeqAt.shaped (.list [p1, p2, p3]) = true := by
    unfold PySem.SeqAt.shaped
    simp [PyData.canLay0, PyData.canLayAll0, b1, b2, b3, PyData.depth, PyData.depthAll]
    omega
  have s2 : PySem.SeqAt.shaped (.list [q1, q2, q3]) = true := by
    unfold PySem.SeqAt.shaped
    simp [PyData.canLay0, PyData.canLayAll0, e1, e2, e3, PyData.depth, PyData.depthAll]
    omega
  unfold eqD
  rw [t1, t2]
  simp only [s1, s2, Bool.and_self, if_true]
  simp [PyData.eqv, PyData.eqvAll, z1, z2, z3, sameB]
theorem eqD_bl (a b : Bool) : eqD (.bl a) (.bl b) = some (decide (a = b)) := eqE_bl.eqD (by omega) a b
end K24

namespace K24
open FL
/-! Z1: data of any kind, and what the program's checks of rows, shows and burdens say of it. -/
def Rs (k : Nat) (f : Nat) (ds : List D) (x : Exn) (os : List (Option D)) : Prop := run T k f ds = none ∧ runX T k f ds = some (x, os)
theorem flat_share {e : D} (h : flatD e = true) : share e = e := by cases e <;> simp_all [flatD]
theorem shares_id {es : List D} (h : ∀ e ∈ es, share e = e) : shares es = es := by
  rw [shares_eq]
  conv => rhs; rw [← List.map_id es]
  exact List.map_congr_left h
theorem flat_shares {es : List D} (h : ∀ e ∈ es, flatD e = true) : shares es = es := shares_id fun e he => flat_share (h e he)
/-- a row of data: a list of small things, a tuple of them, or None -/
def Rw (d : D) : Prop := (∃ es : List D, (d = .lst .shr es ∨ d = .tup es) ∧ ∀ e ∈ es, flatD e = true) ∨ d = .non
theorem Rw.share {d : D} (h : Rw d) : share d = d := by
  rcases h with ⟨es, rfl | rfl, h⟩ | rfl
  · simp [flat_shares h]
  · simp [flat_shares h]
  · simp
theorem Rw.shares {ds : List D} (h : ∀ d ∈ ds, Rw d) : shares ds = ds := by
  exact shares_id fun e he => (h e he).share
theorem Rw.ints (xs : List Int) : Rw (eRow .shr xs) := .inl ⟨eI xs, .inl rfl, fun e he => by
  obtain ⟨z, _, rfl⟩ := mem_eI he; rfl⟩
def isI : D → Bool
  | .int _ => true
  | _ => false
def rowN (n : Int) : D → Bool
  | .lst _ es => decide ((es.length : Int) = n) && es.all isI
  | _ => false
def rowOf : D → List Int
  | .lst _ es => (intsD es).getD []
  | _ => []
theorem all_ints : ∀ {es : List D}, es.all isI = true → ∃ xs, es = eI xs
  | [], _ => ⟨[], rfl⟩
  | .int i :: es, h => by
    obtain ⟨xs, e⟩ := all_ints (es := es) (by simpa [isI] using h)
    exact ⟨i :: xs, by rw [e]; rfl⟩
  | .non :: es, h => by simp [isI] at h
  | .bl _ :: es, h => by simp [isI] at h
  | .str _ :: es, h => by simp [isI] at h
  | .tup _ :: es, h => by simp [isI] at h
  | .lst _ _ :: es, h => by simp [isI] at h
  | .obj _ _ _ _ :: es, h => by simp [isI] at h
  | .hole _ :: es, h => by simp [isI] at h
  | .dic :: es, h => by simp [isI] at h
  | .any :: es, h => by simp [isI] at h
theorem ints_all (xs : List Int) : (eI xs).all isI = true := by
  rw [List.all_eq_true]
  intro d hd
  obtain ⟨z, _, rfl⟩ := mem_eI hd
  rfl
@[simp] theorem rowOf_row (f : Fl) (xs : List Int) : rowOf (eRow f xs) = xs := by
  show (intsD (xs.map D.int)).getD [] = xs
  rw [intsD_map]; rfl
theorem rowN_row (f : Fl) (xs : List Int) (n : Int) : rowN n (eRow f xs) = decide ((xs.length : Int) = n) := by
  show (decide (((eI xs).length : Int) = n) && (eI xs).all isI) = _
  rw [ints_all, eI_len]; simp
theorem rowN_is {n : Int} {d : D} (hr : Rw d) (h : rowN n d = true) : ∃ xs : List Int, d = eRow .shr xs ∧ (xs.length : Int) = n := by
  rcases hr with ⟨es, rfl | rfl, hf⟩ | rfl
  · simp only [rowN, Bool.and_eq_true, decide_eq_true_eq] at h
    obtain ⟨xs, rfl⟩ := all_ints h.2
    exact ⟨xs, rfl, by rw [← eI_len]; exact h.1⟩
  · simp [rowN] at h
  · simp [rowN] at h
theorem is_integer_flat (k : Nat) (e : D) (h : flatD e = true) : run T (k + 1) i_is_integer [e] = some (.bl (isI e), [none]) := by
  rw [r_is_integer, runFn_eq rfl]
  cases e <;> simp_all [flatD, f_is_integer, b_is_integer, isI]
theorem is_vector_dec (k : Nat) (d : D) (hr : Rw d) (n : Int) : run T (k + 2) i_is_vector [d, .int n] = some (.bl (rowN n d), [none, none]) := by
  rw [r_is_vector, runFn_eq rfl]
  rcases hr with ⟨es, rfl | rfl, hf⟩ | rfl
  · have sh := flat_shares hf
    by_cases hl : (es.length : Int) = n
    · have key := forL_all (bind := bindT (.name 2)) (body := exSs (G (k + 1)) p_is_vector_l1) id (fun s : Option D => [some (.lst .shr es), some (.int n), s]) isI (.bl false) es (fun e he s => by
        have ie := is_integer_flat k e (hf e he)
        have se := flat_share (hf e he)
        cases hi : isI e with
        | true => exact .inl ⟨rfl, some e, by rw [hi] at ie; simp [p_is_vector_l1, se, ie]⟩
        | false => exact .inr ⟨rfl, _, by rw [hi] at ie; simp [p_is_vector_l1, se, ie]; rfl⟩) none
      rw [List.map_id] at key
      have en : rowN n (.lst .shr es) = es.all isI := by simp [rowN, hl]
      rw [en]
      rcases key with ⟨ha, s, e⟩ | ⟨ha, ρ, e⟩ <;> rw [ha] <;> simp [f_is_vector, b_is_vector, sh, hl, eqD_int, e]
    · have en : rowN n (.lst .shr es) = false := by simp [rowN, hl]
      rw [en]
      simp [f_is_vector, b_is_vector, sh, hl, eqD_int]
  · simp [f_is_vector, b_is_vector, rowN]
  · simp [f_is_vector, b_is_vector, rowN]
def rowS (n : Int) (d : D) : Bool := rowN n d && (rowOf d).all fun x => decide (-9 ≤ x) && decide (x ≤ 9)
theorem is_row_dec (k : Nat) (d : D) (hr : Rw d) (n : Int) : run T (k + 3) i_is_row [d, .int n] = some (.bl (rowS n d), [none, none]) := by
  have v := is_vector_dec k d hr n
  have sd := hr.share
  rw [r_is_row, runFn_eq rfl]
  cases hN : rowN n d with
  | false =>
    rw [hN] at v
    simp [f_is_row, b_is_row, sd, v, rowS, hN]
  | true =>
    rw [hN] at v
    obtain ⟨xs, rfl, hl⟩ := rowN_is hr hN
    have key := forL_all (bind := bindT (.name 2)) (body := exSs (G (k + 2)) p_is_row_l1) D.int (fun s : Option D => [some (.lst .shr (eI xs)), some (.int n), s]) (fun x => decide (-9 ≤ x) && decide (x ≤ 9)) (.bl false) xs (fun x hx s => by
      by_cases h1 : -9 ≤ x
      · by_cases h2 : x ≤ 9
        · exact .inl ⟨by simp [h1, h2], some (.int x), by simp [p_is_row_l1, h1, h2]⟩
        · exact .inr ⟨by simp [h2], _, by simp [p_is_row_l1, h1, h2]; rfl⟩
      · exact .inr ⟨by simp [h1], _, by simp [p_is_row_l1, h1]; rfl⟩) none
    have er : xs.map D.int = eI xs := rfl
    rw [er] at key
    have en : rowS n (eRow .shr xs) = xs.all fun x => decide (-9 ≤ x) && decide (x ≤ 9) := by rw [rowS, hN, rowOf_row, Bool.true_and]
    rw [en]
    simp only [eRow] at *
    rcases key with ⟨ha, s, e⟩ | ⟨ha, ρ, e⟩ <;> rw [ha] <;> simp [f_is_row, b_is_row, shares_ints, v, e]
theorem rowS_row (n : Int) (f : Fl) (xs : List Int) : rowS n (eRow f xs) = (decide ((xs.length : Int) = n) && xs.all fun x => decide (-9 ≤ x) && decide (x ≤ 9)) := by rw [rowS, rowN_row, rowOf_row]
/-- what may stand where a list of rows should -/
def VR (v : D) : Prop := (∃ ds : List D, (v = .lst .shr ds ∨ v = .tup ds) ∧ ∀ d ∈ ds, Rw d) ∨ v = .non
theorem VR.share {v : D} (h : VR v) : share v = v := by
  rcases h with ⟨ds, rfl | rfl, h⟩ | rfl
  · simp [Rw.shares h]
  · simp [Rw.shares h]
  · simp
theorem VR.shares {ds : List D} (h : ∀ d ∈ ds, VR d) : shares ds = ds := shares_id fun e he => (h e he).share
def rowsS (m n : Int) : D → Bool
  | .lst _ ds => decide ((ds.length : Int) = m) && ds.all (rowS n)
  | _ => false
theorem are_rows_dec (k : Nat) (v : D) (hv : VR v) (m n : Int) : run T (k + 4) i_are_rows [v, .int m, .int n] = some (.bl (rowsS m n v), [none, none, none]) := by
  rw [r_are_rows, runFn_eq rfl]
  rcases hv with ⟨ds, rfl | rfl, hf⟩ | rfl
  · have sh := Rw.shares hf
    by_cases hl : (ds.length : Int) = m
    · have key := forL_all (bind := bindT (.name 3)) (body := exSs (G (k + 3)) p_are_rows_l1) id (fun s : Option D => [some (.lst .shr ds), some (.int m), some (.int n), s]) (rowS n) (.bl false) ds (fun d hd s => by
        have ie := is_row_dec k d (hf d hd) n
        have se := (hf d hd).share
        cases hi : rowS n d with
        | true => exact .inl ⟨rfl, some d, by rw [hi] at ie; simp [p_are_rows_l1, se, ie]⟩
        | false => exact .inr ⟨rfl, _, by rw [hi] at ie; simp [p_are_rows_l1, se, ie]; rfl⟩) none
      rw [List.map_id] at key
      have en : rowsS m n (.lst .shr ds) = ds.all (rowS n) := by simp [rowsS, hl]
      rw [en]
      rcases key with ⟨ha, s, e⟩ | ⟨ha, ρ, e⟩ <;> rw [ha] <;> simp [f_are_rows, b_are_rows, sh, hl, eqD_int, e]
    · have en : rowsS m n (.lst .shr ds) = false := by simp [rowsS, hl]
      rw [en]
      simp [f_are_rows, b_are_rows, sh, hl, eqD_int]
  · simp [f_are_rows, b_are_rows, rowsS]
  · simp [f_are_rows, b_are_rows, rowsS]
/-- what may stand where a list of lists of rows should -/
def VS (v : D) : Prop := (∃ ds : List D, (v = .lst .shr ds ∨ v = .tup ds) ∧ ∀ d ∈ ds, VR d) ∨ v = .non
theorem VS.share {v : D} (h : VS v) : share v = v := by
  rcases h with ⟨ds, rfl | rfl, h⟩ | rfl
  · simp [VR.shares h]
  · simp [VR.shares h]
  · simp
def showS (c : Int) : D → Bool
  | .lst f ds => decide ((ds.length : Int) ≤ 2) && rowsS ds.length (1 + c) (.lst f ds)
  | _ => false
def showsS (m c : Int) : D → Bool
  | .lst _ ds => decide ((ds.length : Int) = m) && ds.all (showS c)
  | _ => false
theorem are_shows_dec (k : Nat) (v : D) (hv : VS v) (m c : Int) : run T (k + 5) i_are_shows [v, .int m, .int c] = some (.bl (showsS m c v), [none, none, none]) := by
  rw [r_are_shows, runFn_eq rfl]
  rcases hv with ⟨ds, rfl | rfl, hf⟩ | rfl
  · have sh := VR.shares hf
    by_cases hl : (ds.length : Int) = m
    · have key := forL_all (bind := bindT (.name 3)) (body := exSs (G (k + 4)) p_are_shows_l1) id (fun s : Option D => [some (.lst .shr ds), some (.int m), some (.int c), s]) (showS c) (.bl false) ds (fun d hd s => by
        have hd' := hf d hd
        have ie := fun m => are_rows_dec k d hd' m (1 + c)
        have se := hd'.share
        rcases hd' with ⟨es, rfl | rfl, he⟩ | rfl
        · have sh2 := Rw.shares he
          by_cases h2 : (es.length : Int) ≤ 2
          · have h2' : ¬ ((2 : Int) < es.length) := by omega
            have ie := ie es.length
            cases hi : rowsS es.length (1 + c) (.lst .shr es) with
            | true => exact .inl ⟨by simp [showS, hi, h2], some (.lst .shr es), by rw [hi] at ie; simp [p_are_shows_l1, sh2, h2, h2', ie]⟩
            | false => exact .inr ⟨by simp [showS, hi], _, by rw [hi] at ie; simp [p_are_shows_l1, sh2, h2, h2', ie]; rfl⟩
          · have h2' : (2 : Int) < es.length := by omega
            exact .inr ⟨by simp [showS, h2], _, by simp [p_are_shows_l1, sh2, h2, h2']; rfl⟩
        · exact .inr ⟨rfl, _, by simp [p_are_shows_l1]; rfl⟩
        · exact .inr ⟨rfl, _, by simp [p_are_shows_l1]; rfl⟩) none
      rw [List.map_id] at key
      have en : showsS m c (.lst .shr ds) = ds.all (showS c) := by simp [showsS, hl]
      rw [en]
      rcases key with ⟨ha, s, e⟩ | ⟨ha, ρ, e⟩ <;> rw [ha] <;> simp [f_are_shows, b_are_shows, sh, hl, eqD_int, e]
    · have en : showsS m c (.lst .shr ds) = false := by simp [showsS, hl]
      rw [en]
      simp [f_are_shows, b_are_shows, sh, hl, eqD_int]
  · simp [f_are_shows, b_are_shows, showsS]
  · simp [f_are_shows, b_are_shows, showsS]
def ixI (n : Int) : D → Bool
  | .int i => decide (0 ≤ i) && decide (i < n)
  | _ => false
theorem is_index_flat (k : Nat) (e : D) (h : flatD e = true) (n : Int) : run T (k + 2) i_is_index [e, .int n] = some (.bl (ixI n e), [none, none]) := by
  have ii := is_integer_flat k e h
  have se := flat_share h
  rw [r_is_index, runFn_eq rfl]
  cases e with
  | int i =>
    by_cases h0 : 0 ≤ i <;> simp [f_is_index, b_is_index, ixI, h0]
  | non => simp [isI] at ii; simp [f_is_index, b_is_index, ixI, ii]
  | bl b => simp [isI] at ii; simp [f_is_index, b_is_index, ixI, ii]
  | str x => simp [isI] at ii; simp [f_is_index, b_is_index, ixI, ii]
  | _ => simp [flatD] at h
def kindsS (n : Int) : D → Bool
  | .lst _ es => es.all (ixI n)
  | _ => false
theorem are_kinds_dec (k : Nat) (v : D) (hr : Rw v) (n : Int) : run T (k + 3) i_are_kinds [v, .int n] = some (.bl (kindsS n v), [none, none]) := by
  rw [r_are_kinds, runFn_eq rfl]
  rcases hr with ⟨es, rfl | rfl, hf⟩ | rfl
  · have sh := flat_shares hf
    have key := forL_all (bind := bindT (.name 2)) (body := exSs (G (k + 2)) p_are_kinds_l1) id (fun s : Option D => [some (.lst .shr es), some (.int n), s]) (ixI n) (.bl false) es (fun e he s => by
      have ie := is_index_flat k e (hf e he) n
      have se := flat_share (hf e he)
      cases hi : ixI n e with
      | true => exact .inl ⟨rfl, some e, by rw [hi] at ie; simp [p_are_kinds_l1, se, ie]⟩
      | false => exact .inr ⟨rfl, _, by rw [hi] at ie; simp [p_are_kinds_l1, se, ie]; rfl⟩) none
    rw [List.map_id] at key
    have en : kindsS n (.lst .shr es) = es.all (ixI n) := rfl
    rw [en]
    rcases key with ⟨ha, s, e⟩ | ⟨ha, ρ, e⟩ <;> rw [ha] <;> simp [f_are_kinds, b_are_kinds, sh, e]
  · simp [f_are_kinds, b_are_kinds, kindsS]
  · simp [f_are_kinds, b_are_kinds, kindsS]
def burdS : D → Bool
  | .lst _ es => decide (1 ≤ (es.length : Int)) && (decide ((es.length : Int) ≤ 3) && es.all (ixI 3))
  | _ => false
theorem are_burdens_dec (k : Nat) (v : D) (hr : Rw v) : run T (k + 4) i_are_burdens [v] = some (.bl (burdS v), [none]) := by
  have ak := are_kinds_dec k v hr 3
  have sv := hr.share
  rw [r_are_burdens, runFn_eq rfl]
  rcases hr with ⟨es, rfl | rfl, hf⟩ | rfl
  · have sh := flat_shares hf
    have en : kindsS 3 (.lst .shr es) = es.all (ixI 3) := rfl
    rw [en] at ak
    generalize hA : es.all (ixI 3) = A at *
    by_cases h1 : 1 ≤ (es.length : Int)
    · by_cases h3 : (es.length : Int) ≤ 3
      · simp [f_are_burdens, b_are_burdens, sh, h1, h3, ak, burdS, hA]
      · simp [f_are_burdens, b_are_burdens, sh, h1, h3, burdS]
    · simp [f_are_burdens, b_are_burdens, sh, h1, burdS]
  · simp [f_are_burdens, b_are_burdens, burdS]
  · simp [f_are_burdens, b_are_burdens, burdS]
end K24

namespace K24
open FL
/-! statements of a block, parts of a script -/
inductive Stm where
  | go (t : Nat)
  | swap (a b : Nat)
  | upd (add : Bool) (c : Nat) (row : List Int)
abbrev sGo : PySem.Str := PySem.Str.ofString "go"
abbrev sSwap : PySem.Str := PySem.Str.ofString "swap"
abbrev sSet : PySem.Str := PySem.Str.ofString "set"
abbrev sAdd : PySem.Str := PySem.Str.ofString "add"
def sUpd (b : Bool) : PySem.Str := if b = true then sAdd else sSet
def eStm (f : Fl) : Stm → D
  | .go t => .tup [.str sGo, .int t]
  | .swap a b => .tup [.str sSwap, .int a, .int b]
  | .upd ad c row => .tup [.str (sUpd ad), .int c, .lst f (eI row)]
@[simp] theorem share_eStm (f : Fl) (s : Stm) : share (eStm f s) = eStm f.sh s := by
  cases s <;> simp [eStm, shares_ints]
def eBlk (f : Fl) (b : List Stm) : D := .lst f (b.map (eStm f))
theorem shares_eStm (f : Fl) (b : List Stm) : shares (b.map (eStm f)) = b.map (eStm f.sh) := by
  rw [shares_eq, List.map_map]; apply List.map_congr_left; intro r _; exact share_eStm f r
@[simp] theorem share_eBlk (f : Fl) (b : List Stm) : share (eBlk f b) = eBlk f.sh b := by simp [eBlk, shares_eStm]
def eBl (f : Fl) (l : List (List Stm)) : D := .lst f (l.map (eBlk f))
theorem shares_eBlk (f : Fl) (b : List (List Stm)) : shares (b.map (eBlk f)) = b.map (eBlk f.sh) := by
  rw [shares_eq, List.map_map]; apply List.map_congr_left; intro r _; exact share_eBlk f r
@[simp] theorem share_eBl (f : Fl) (b : List (List Stm)) : share (eBl f b) = eBl f.sh b := by simp [eBl, shares_eBlk]
def eBs (f : Fl) (bs : List (List (List Stm))) : List D := bs.map (eBl f)
@[simp] theorem shares_eBs (f : Fl) (b : List (List (List Stm))) : shares (eBs f b) = eBs f.sh b := by
  unfold eBs; rw [shares_eq, List.map_map]; apply List.map_congr_left; intro r _; exact share_eBl f r
@[simp] theorem eBs_len (f : Fl) (b : List (List (List Stm))) : (eBs f b).length = b.length := by simp [eBs]
def StmOk (N C : Nat) (b : Int) : Stm → Prop
  | .go t => t < N
  | .swap x y => x < C ∧ y < C
  | .upd _ c row => c < C ∧ (row.length : Int) = 1 + C + b ∧ small row
theorem ne_gs : (sGo = sSwap) = False := by decide +kernel
theorem ne_gt : (sGo = sSet) = False := by decide +kernel
theorem ne_ga : (sGo = sAdd) = False := by decide +kernel
theorem ne_st : (sSwap = sSet) = False := by decide +kernel
theorem ne_sa : (sSwap = sAdd) = False := by decide +kernel
theorem ne_ta : (sSet = sAdd) = False := by decide +kernel
theorem ne_sg : (sSwap = sGo) = False := by decide +kernel
theorem ne_tg : (sSet = sGo) = False := by decide +kernel
theorem ne_ag : (sAdd = sGo) = False := by decide +kernel
theorem ne_ts : (sSet = sSwap) = False := by decide +kernel
theorem ne_as : (sAdd = sSwap) = False := by decide +kernel
theorem ne_at : (sAdd = sSet) = False := by decide +kernel
theorem ne_ug (b : Bool) : (sUpd b = sGo) = False := by cases b <;> simp only [sUpd] <;> first | exact ne_tg | exact ne_ag
theorem ne_us (b : Bool) : (sUpd b = sSwap) = False := by cases b <;> simp only [sUpd] <;> first | exact ne_ts | exact ne_as
theorem eq_ua (b : Bool) : decide (sUpd b = sAdd) = b := by cases b <;> simp [sUpd, ne_ta]
theorem eq_us (b : Bool) : decide (sUpd b = sSet) = !b := by cases b <;> simp [sUpd, ne_at]
theorem eqD_str (a b : PySem.Str) (ha : (PySem.PyData.str a).canLay0 = true) (hb : (PySem.PyData.str b).canLay0 = true) : eqD (.str a) (.str b) = some (decide (a = b)) := by
  have s1 : PySem.SeqAt.shaped (.str a) = true := by unfold PySem.SeqAt.shaped; rw [ha]; simp [PySem.PyData.depth]
  have s2 : PySem.SeqAt.shaped (.str b) = true := by unfold PySem.SeqAt.shaped; rw [hb]; simp [PySem.PyData.depth]
  unfold eqD
  simp only [toP, s1, s2, Bool.and_self, if_true]
  simp only [PySem.PyData.eqv]
  by_cases h : a = b
  · subst h; simp
  · simp [h]
theorem ok_go : (PySem.PyData.str sGo).canLay0 = true := by decide +kernel
theorem ok_swap : (PySem.PyData.str sSwap).canLay0 = true := by decide +kernel
theorem ok_set : (PySem.PyData.str sSet).canLay0 = true := by decide +kernel
theorem ok_add : (PySem.PyData.str sAdd).canLay0 = true := by decide +kernel
theorem ok_upd (b : Bool) : (PySem.PyData.str (sUpd b)).canLay0 = true := by cases b <;> simp only [sUpd] <;> first | exact ok_set | exact ok_add
theorem q_gg : eqD (.str sGo) (.str sGo) = some true := by rw [eqD_str _ _ ok_go ok_go]; simp
theorem q_sg : eqD (.str sSwap) (.str sGo) = some false := by rw [eqD_str _ _ ok_swap ok_go]; simp [ne_sg]
theorem q_ug (b : Bool) : eqD (.str (sUpd b)) (.str sGo) = some false := by rw [eqD_str _ _ (ok_upd b) ok_go]; simp [ne_ug]
theorem q_gs : eqD (.str sGo) (.str sSwap) = some false := by rw [eqD_str _ _ ok_go ok_swap]; simp [ne_gs]
theorem q_ss : eqD (.str sSwap) (.str sSwap) = some true := by rw [eqD_str _ _ ok_swap ok_swap]; simp
theorem q_us (b : Bool) : eqD (.str (sUpd b)) (.str sSwap) = some false := by rw [eqD_str _ _ (ok_upd b) ok_swap]; simp [ne_us]
theorem q_ua (b : Bool) : eqD (.str (sUpd b)) (.str sAdd) = some b := by rw [eqD_str _ _ (ok_upd b) ok_add, eq_ua]
theorem q_ut (b : Bool) : eqD (.str (sUpd b)) (.str sSet) = some (!b) := by rw [eqD_str _ _ (ok_upd b) ok_set, eq_us]
theorem q_ga : eqD (.str sGo) (.str sAdd) = some false := by rw [eqD_str _ _ ok_go ok_add]; simp [ne_ga]
theorem q_gt : eqD (.str sGo) (.str sSet) = some false := by rw [eqD_str _ _ ok_go ok_set]; simp [ne_gt]
theorem q_sa : eqD (.str sSwap) (.str sAdd) = some false := by rw [eqD_str _ _ ok_swap ok_add]; simp [ne_sa]
theorem q_st : eqD (.str sSwap) (.str sSet) = some false := by rw [eqD_str _ _ ok_swap ok_set]; simp [ne_st]
theorem q_tu (b : Bool) : eqD (.str sSet) (.str (sUpd b)) = some (!b) := by
  rw [eqD_str _ _ ok_set (ok_upd b)]
  cases b <;> simp [sUpd, ne_ta]
theorem q_au (b : Bool) : eqD (.str sAdd) (.str (sUpd b)) = some b := by
  rw [eqD_str _ _ ok_add (ok_upd b)]
  cases b <;> simp [sUpd, ne_at]
theorem q_tg : eqD (.str sSet) (.str sGo) = some false := by rw [eqD_str _ _ ok_set ok_go]; simp [ne_tg]
theorem q_ag : eqD (.str sAdd) (.str sGo) = some false := by rw [eqD_str _ _ ok_add ok_go]; simp [ne_ag]
theorem q_ts : eqD (.str sSet) (.str sSwap) = some false := by rw [eqD_str _ _ ok_set ok_swap]; simp [ne_ts]
theorem q_as : eqD (.str sAdd) (.str sSwap) = some false := by rw [eqD_str _ _ ok_add ok_swap]; simp [ne_as]
def sparse (row : List Int) (t : Nat) : List Int := (List.range row.length).map fun k => row.getD k 0 * (if k = t then 1 else 0)
theorem sparse_ok {row : List Int} (t : Nat) (h : small row) : small (sparse row t) := by
  intro x hx
  obtain ⟨k, hk, rfl⟩ := List.mem_map.mp hx
  simp at hk
  have := h row[k] (List.getElem_mem hk)
  by_cases e : k = t
  · simp [e, hk] at this ⊢
    subst e
    simpa [hk] using this
  · simp [e]
theorem sprow_ok (k : Nat) (row : List Int) (t : Nat) (hz : row.length ≤ 100) (x0 x1 x2 x3 x4 x5 x6 x7 x8 : Option D) :
    compL (bindT (.name 11)) (evC (G (k + 1)) .no) (evE (G (k + 1)) p_l_statement_c1) [11] (rngL 0 row.length) [x0, x1, x2, x3, x4, x5, x6, x7, x8, some (.lst .shr (eI row)), some (.int t), none] [] = some (eI (sparse row t), [x0, x1, x2, x3, x4, x5, x6, x7, x8, some (.lst .shr (eI row)), some (.int t), none]) := by
  rw [rngL_0]
  have key := compL_mapT (bind := bindT (.name 11)) (cond := evC (G (k + 1)) .no) (elt := evE (G (k + 1)) p_l_statement_c1) (vs := [11]) (ρ := [x0, x1, x2, x3, x4, x5, x6, x7, x8, some (.lst .shr (eI row)), some (.int t), none]) (fun (k : Nat) => D.int (k : Int)) (fun k => D.int (row.getD k 0 * (if k = t then 1 else 0))) (List.range row.length) (acc := []) (fun j hj => by
    simp at hj
    have a1 : L2.atI (eI row) (j : Int) = some (.int row[j]) := by rw [atI_nat, eI_get, List.getElem?_eq_getElem hj]; rfl
    refine ⟨[x0, x1, x2, x3, x4, x5, x6, x7, x8, some (.lst .shr (eI row)), some (.int t), some (.int j)], ?_, by simp⟩
    have m : ∀ c : Bool, mulOk row[j] (if c = true then 1 else 0) = true := fun c => by cases c <;> simp [mulOk]
    by_cases e : j = t
    · subst e
      have m1 := m true
      simp at m1
      simp [p_l_statement_c1, shares_ints, a1, eqD_int, m1, hj]
    · have e' : ¬ ((j : Int) = (t : Int)) := by omega
      have m1 := m false
      simp at m1
      simp [p_l_statement_c1, shares_ints, a1, eqD_int, m1, hj, e, e']) (by simp; omega)
  rw [key]
  unfold sparse eI
  rw [List.map_map]
  rfl
theorem strow_ok (k : Nat) (p : Pool) (n B : Nat) (x1 x2 x3 x5 x6 x7 x8 x9 x10 : Option D) (hB : B ≤ 9) (hn : n ≤ 100) :
    ∃ row p', compL (bindT (.name 11)) (evC (G (k + 1)) .no) (evE (G (k + 1)) p_l_statement_c2) [11] (rngL 0 n) [some (eP p), x1, x2, x3, some (.int B), x5, x6, x7, x8, x9, x10, none] [] = some (eI row, [some (eP p'), x1, x2, x3, some (.int B), x5, x6, x7, x8, x9, x10, none]) ∧ row.length = n ∧ small row := by
  rw [rngL_0]
  obtain ⟨row, ρ', e, hr, p', rfl⟩ := compL_ex (bind := bindT (.name 11)) (cond := evC (G (k + 1)) .no) (elt := evE (G (k + 1)) p_l_statement_c2) (vs := [11]) (fun ρ => ∃ p : Pool, ρ = [some (eP p), x1, x2, x3, some (.int B), x5, x6, x7, x8, x9, x10, none]) (fun (_ : Nat) (z : Int) => -9 ≤ z ∧ z ≤ 9) (fun (k : Nat) => D.int (k : Int)) D.int (List.range n) (acc := []) (by
    rintro j hj ρ ⟨p, rfl⟩
    obtain ⟨v, p', e, g1, g2⟩ := draw_ok k p (2 * B + 1) (by omega) (by omega)
    refine ⟨v - B, [some (eP p'), x1, x2, x3, some (.int B), x5, x6, x7, x8, x9, x10, some (.int j)], ?_, by omega, p', by simp⟩
    have m : mulOk 2 (B : Int) = true := by simp [mulOk]
    simp [p_l_statement_c2, m, e]) ⟨p, rfl⟩ (by simp; omega)
  exact ⟨row, p', by simpa [eI] using e, by simpa using hr.1, fun x hx => hr.all (fun _ z h => h) x hx⟩
theorem statement_ok (k : Nat) (p : Pool) (N C B : Nat) (b : Int) (hN : 0 < N) (hN3 : N ≤ 3) (hC : 0 < C) (hC3 : C ≤ 3) (hB : B ≤ 9) (hb : 0 ≤ b ∧ b < 3) :
    ∃ s p', run T (k + 2) i_l_statement [eP p, .int N, .int C, .int b, .int B] = some (eStm .own s, [some (eP p'), none, none, none, none]) ∧ StmOk N C b s := by
  rw [r_l_statement, runFn_eq rfl]
  obtain ⟨v1, p1, e1, a1, b1⟩ := draw_ok k p 6 (by omega) (by omega)
  obtain ⟨v2, p2, e2, a2, b2⟩ := draw_ok k p1 C (by omega) (by omega)
  obtain ⟨v3, p3, e3, a3, b3⟩ := draw_ok k p2 C (by omega) (by omega)
  obtain ⟨v4, p4, e4, a4, b4⟩ := draw_ok k p3 2 (by omega) (by omega)
  obtain ⟨c, rfl⟩ : ∃ c : Nat, v2 = c := ⟨v2.toNat, by omega⟩
  obtain ⟨o, rfl⟩ : ∃ c : Nat, v3 = c := ⟨v3.toNat, by omega⟩
  have g1 := rngO_nat (1 + C + b) (1 + C + b.toNat) (by omega) (by omega)
  obtain ⟨row0, p5, e5, l5, s5⟩ := strow_ok k p4 (1 + C + b.toNat) B (some (.int N)) (some (.int C)) (some (.int b)) (some (.int v1)) (some (.int c)) (some (.int o)) (some (.int v4)) none none hB (by omega)
  -- the row, thinned or not
  have thin : ∃ row p6 x10, exSs (G (k + 1)) (takeS 6 b_l_statement) [some (eP p), some (.int N), some (.int C), some (.int b), some (.int B), none, none, none, none, none, none, none] = some (.nx [some (eP p6), some (.int N), some (.int C), some (.int b), some (.int B), some (.int v1), some (.int c), some (.int o), some (.int v4), some (.lst .own (eI row)), x10, none]) ∧ row.length = 1 + C + b.toNat ∧ small row := by
    by_cases z : v4 = 1
    · obtain ⟨t, p6, e6, a6, b6⟩ := draw_ok k p5 row0.length (by omega) (by omega)
      obtain ⟨t, rfl⟩ : ∃ c : Nat, t = c := ⟨t.toNat, by omega⟩
      have g2 := rngO_nat row0.length row0.length rfl (by omega)
      have e7 := sprow_ok k row0 t (by omega) (some (share (eP p6))) (some (.int N)) (some (.int C)) (some (.int b)) (some (.int B)) (some (.int v1)) (some (.int c)) (some (.int o)) (some (.int 1))
      have cl : closedL (eI (sparse row0 t)) = true := closed_eI _
      subst z
      refine ⟨sparse row0 t, p6, some (.int t), ?_, by simp [sparse, l5], sparse_ok t s5⟩
      simp [b_l_statement, takeS, e1, e2, e3, e4, g1, e5, eqD_int, e6, g2, e7, cl, eI_len, shares_ints]
    · refine ⟨row0, p5, none, ?_, l5, s5⟩
      simp [b_l_statement, takeS, e1, e2, e3, e4, g1, e5, eqD_int, z]
  obtain ⟨row, p6, x10, e6, l6, s6⟩ := thin
  by_cases w0 : v1 = 0
  · subst w0
    obtain ⟨t, p7, e7, a7, b7⟩ := draw_ok k p6 N (by omega) (by omega)
    obtain ⟨t, rfl⟩ : ∃ c : Nat, t = c := ⟨t.toNat, by omega⟩
    refine ⟨.go t, p7, ?_, by simp [StmOk]; omega⟩
    have e8 := ss_two (Γ := G (k + 1)) 6 (b := b_l_statement) e6 (fl := .rt (eStm .own (.go t)) [some (eP p7), none, some (.int C), some (.int b), some (.int B), some (.int 0), some (.int c), some (.int o), some (.int v4), some (.lst .own (eI row)), x10, none]) (by
      simp [b_l_statement, dropS, eqD_int, e7, eStm])
    simp only [f_l_statement]
    simp [e8]
  by_cases w1 : v1 = 1
  · subst w1
    refine ⟨.swap c o, p6, ?_, by simp [StmOk]; omega⟩
    have e8 := ss_two (Γ := G (k + 1)) 6 (b := b_l_statement) e6 (fl := .rt (eStm .own (.swap c o)) [some (eP p6), some (.int N), some (.int C), some (.int b), some (.int B), some (.int 1), none, none, some (.int v4), some (.lst .own (eI row)), x10, none]) (by
      simp [b_l_statement, dropS, eqD_int, eStm])
    simp only [f_l_statement]
    simp [e8]
  · have hw : ∃ ad : Bool, L2.atI [D.str sSet, D.str sAdd] (v1 % 2) = some (.str (sUpd ad)) := by
      have : v1 = 2 ∨ v1 = 3 ∨ v1 = 4 ∨ v1 = 5 := by omega
      rcases this with rfl | rfl | rfl | rfl
      · exact ⟨false, by simp [sUpd]⟩
      · exact ⟨true, by simp [sUpd]⟩
      · exact ⟨false, by simp [sUpd]⟩
      · exact ⟨true, by simp [sUpd]⟩
    obtain ⟨ad, hw⟩ := hw
    refine ⟨.upd ad c row, p6, ?_, by simp only [StmOk]; exact ⟨by omega, by omega, s6⟩⟩
    have e8 := ss_two (Γ := G (k + 1)) 6 (b := b_l_statement) e6 (fl := .rt (eStm .own (.upd ad c row)) [some (eP p6), some (.int N), some (.int C), some (.int b), some (.int B), none, none, some (.int o), some (.int v4), none, x10, none]) (by
      simp [b_l_statement, dropS, eqD_int, w0, w1, hw, eStm])
    simp only [f_l_statement]
    simp [e8]
end K24

namespace K24
open FL
structure SD where
  bs : List Int
  cells : Nat
  blocks : List (List (List Stm))
  shows : List (List (List Int))
def BlkOk (N C : Nat) (b : Int) (blk : List Stm) : Prop := blk.length ≤ 6 ∧ ∀ s ∈ blk, StmOk N C b s
structure SD.Ok (S : SD) : Prop where
  k1 : 1 ≤ S.bs.length
  k3 : S.bs.length ≤ 3
  b : ∀ x ∈ S.bs, 0 ≤ x ∧ x < 3
  c1 : 1 ≤ S.cells
  c3 : S.cells ≤ 3
  n1 : 1 ≤ S.blocks.length
  n3 : S.blocks.length ≤ 3
  line : ∀ l ∈ S.blocks, Pw (BlkOk S.blocks.length S.cells) S.bs l
  sh : S.shows.length = S.blocks.length
  shw : ∀ s ∈ S.shows, s.length ≤ 2 ∧ smalls s (1 + S.cells)
def ePS (f g : Fl) (S : SD) : D := .lst f [.lst g (eI S.bs), .int S.cells, .lst f (eBs f S.blocks), .lst f (eShows f S.shows)]
@[simp] theorem share_ePS (f g : Fl) (S : SD) : share (ePS f g S) = ePS f.sh g.sh S := by simp [ePS]
theorem sp_blk (k : Nat) (p : Pool) (n N C B : Nat) (b : Int) (x2 x5 x6 x7 x8 x9 x10 x12 : Option D) (hN : 0 < N) (hN3 : N ≤ 3) (hC : 0 < C) (hC3 : C ≤ 3) (hB : B ≤ 9) (hb : 0 ≤ b ∧ b < 3) (hn : n ≤ 6) :
    ∃ blk p', compL (bindT (.name 15)) (evC (G (k + 2)) .no) (evE (G (k + 2)) p_l_script_parts_c5) [15] (rngL 0 n) [some (eP p), some (.int B), x2, some (.int N), some (.int C), x5, x6, x7, x8, x9, x10, some (.int b), x12, none, none, none] [] = some (blk.map (eStm .own), [some (eP p'), some (.int B), x2, some (.int N), some (.int C), x5, x6, x7, x8, x9, x10, some (.int b), x12, none, none, none]) ∧ BlkOk N C b blk := by
  rw [rngL_0]
  obtain ⟨blk, ρ', e, hr, p', rfl⟩ := compL_ex (bind := bindT (.name 15)) (cond := evC (G (k + 2)) .no) (elt := evE (G (k + 2)) p_l_script_parts_c5) (vs := [15]) (fun ρ => ∃ p : Pool, ρ = [some (eP p), some (.int B), x2, some (.int N), some (.int C), x5, x6, x7, x8, x9, x10, some (.int b), x12, none, none, none]) (fun (_ : Nat) (z : Stm) => StmOk N C b z) (fun (k : Nat) => D.int (k : Int)) (eStm .own) (List.range n) (acc := []) (by
    rintro j hj ρ ⟨p, rfl⟩
    obtain ⟨s, p', e, g1⟩ := statement_ok k p N C B b hN hN3 hC hC3 hB hb
    refine ⟨s, [some (eP p'), some (.int B), x2, some (.int N), some (.int C), x5, x6, x7, x8, x9, x10, some (.int b), x12, none, none, some (.int j)], ?_, g1, p', by simp⟩
    simp [p_l_script_parts_c5, e]) ⟨p, rfl⟩ (by simp; omega)
  simp only [List.nil_append] at e
  refine ⟨blk, p', e, by have := hr.1; simp at this; omega, fun s hs => hr.all (fun _ z h => h) s hs⟩
theorem sp_line (k : Nat) (p : Pool) (N C B : Nat) (bs : List Int) (M : Int) (x2 x6 x7 x8 x9 x11 x12 : Option D) (hN : 0 < N) (hN3 : N ≤ 3) (hC : 0 < C) (hC3 : C ≤ 3) (hB : B ≤ 9) (hb : ∀ b ∈ bs, 0 ≤ b ∧ b < 3) (hl : bs.length ≤ 3) (hM : M = 3 ∨ M = 7) :
    ∃ line p' y11 y12, forL (bindT (.name 11)) (exSs (G (k + 2)) p_l_script_parts_l4) (eI bs) [some (eP p), some (.int B), x2, some (.int N), some (.int C), some (.int M), x6, x7, x8, x9, some (.lst .own []), x11, x12, none, none, none] = some (.nx [some (eP p'), some (.int B), x2, some (.int N), some (.int C), some (.int M), x6, x7, x8, x9, some (.lst .own (line.map (eBlk .own))), y11, y12, none, none, none]) ∧ Pw (BlkOk N C) bs line := by
  obtain ⟨⟨p', line, y11, y12⟩, e, h1⟩ := forL_ix (bind := bindT (.name 11)) (body := exSs (G (k + 2)) p_l_script_parts_l4) D.int (fun (s : Pool × List (List Stm) × Option D × Option D) => [some (eP s.1), some (.int B), x2, some (.int N), some (.int C), some (.int M), x6, x7, x8, x9, some (.lst .own (s.2.1.map (eBlk .own))), s.2.2.1, s.2.2.2, none, none, none]) bs
    (fun j s => s.2.1.length = j ∧ ∀ i b blk, bs[i]? = some b → s.2.1[i]? = some blk → BlkOk N C b blk) (by
      rintro j b ⟨q, line, x11, x12⟩ hj ⟨g1, g2⟩
      simp only at g1 g2
      have hbj := hb b (List.mem_of_getElem? hj)
      have hjl := (List.getElem?_eq_some_iff.mp hj).1
      obtain ⟨m, q1, e1, a1, b1⟩ := draw_ok (k + 1) q M (by omega) (by omega)
      obtain ⟨blk, q2, e2, h2⟩ := sp_blk k q1 m.toNat N C B b x2 (some (.int M)) x6 x7 x8 x9 (some (.lst .own (line.map (eBlk .own)))) (some (.int m)) hN hN3 hC hC3 hB hbj (by omega)
      have g := rngO_nat m m.toNat (by omega) (by omega)
      refine ⟨(q2, line ++ [blk], some (.int b), some (.int m)), .inl ?_, by simp; omega, fun i b' blk' hi hb' => ?_⟩
      · have t : line.length < 16777216 := by omega
        simp [p_l_script_parts_l4, e1, g, e2, t, eBlk]
      · simp only at hb'
        by_cases hlt : i < line.length
        · rw [List.getElem?_append_left hlt] at hb'
          exact g2 i b' blk' hi hb'
        · have hi2 := (List.getElem?_eq_some_iff.mp hb').1
          simp at hi2
          have : i = line.length := by omega
          subst this
          simp at hb'
          subst hb'
          rw [g1] at hi
          rw [hj] at hi
          cases hi
          exact h2) (p, [], x11, x12) ⟨rfl, by simp⟩
  exact ⟨line, p', y11, y12, by simpa [eI] using e, h1.1, fun j a z ha hz => h1.2 j a z ha hz⟩
theorem sp_srow (k : Nat) (p : Pool) (C : Nat) (x1 x2 x3 x5 x6 x7 x8 x9 x10 x11 x12 x14 : Option D) (hC3 : C ≤ 3) :
    ∃ row p', compL (bindT (.name 15)) (evC (G (k + 1)) .no) (evE (G (k + 1)) p_l_script_parts_c3) [15] (rngL 0 (1 + C)) [some (eP p), x1, x2, x3, some (.int C), x5, x6, x7, x8, x9, x10, x11, x12, none, x14, none] [] = some (eI row, [some (eP p'), x1, x2, x3, some (.int C), x5, x6, x7, x8, x9, x10, x11, x12, none, x14, none]) ∧ row.length = 1 + C ∧ small row := by
  rw [rngL_0]
  obtain ⟨row, ρ', e, hr, p', rfl⟩ := compL_ex (bind := bindT (.name 15)) (cond := evC (G (k + 1)) .no) (elt := evE (G (k + 1)) p_l_script_parts_c3) (vs := [15]) (fun ρ => ∃ p : Pool, ρ = [some (eP p), x1, x2, x3, some (.int C), x5, x6, x7, x8, x9, x10, x11, x12, none, x14, none]) (fun (_ : Nat) (z : Int) => -9 ≤ z ∧ z ≤ 9) (fun (k : Nat) => D.int (k : Int)) D.int (List.range (1 + C)) (acc := []) (by
    rintro j hj ρ ⟨p, rfl⟩
    obtain ⟨v, p', e, g1, g2⟩ := draw_ok k p 19 (by omega) (by omega)
    refine ⟨v - 9, [some (eP p'), x1, x2, x3, some (.int C), x5, x6, x7, x8, x9, x10, x11, x12, none, x14, some (.int j)], ?_, by omega, p', by simp⟩
    simp [p_l_script_parts_c3, e]) ⟨p, rfl⟩ (by simp; omega)
  exact ⟨row, p', by simpa [eI] using e, by simpa using hr.1, fun x hx => hr.all (fun _ z h => h) x hx⟩
theorem sp_show (k : Nat) (p : Pool) (C n : Nat) (x1 x2 x3 x5 x6 x7 x8 x9 x10 x11 x12 : Option D) (hC3 : C ≤ 3) (hn : n ≤ 2) :
    ∃ rows p', compL (bindT (.name 14)) (evC (G (k + 1)) .no) (evE (G (k + 1)) p_l_script_parts_c2) [14] (rngL 0 n) [some (eP p), x1, x2, x3, some (.int C), x5, x6, x7, x8, x9, x10, x11, x12, none, none, none] [] = some (rows.map (eRow .own), [some (eP p'), x1, x2, x3, some (.int C), x5, x6, x7, x8, x9, x10, x11, x12, none, none, none]) ∧ rows.length = n ∧ smalls rows (1 + C) := by
  rw [rngL_0]
  obtain ⟨rows, ρ', e, hr, p', rfl⟩ := compL_ex (bind := bindT (.name 14)) (cond := evC (G (k + 1)) .no) (elt := evE (G (k + 1)) p_l_script_parts_c2) (vs := [14]) (fun ρ => ∃ p : Pool, ρ = [some (eP p), x1, x2, x3, some (.int C), x5, x6, x7, x8, x9, x10, x11, x12, none, none, none]) (fun (_ : Nat) (z : List Int) => z.length = 1 + C ∧ small z) (fun (k : Nat) => D.int (k : Int)) (eRow .own) (List.range n) (acc := []) (by
    rintro j hj ρ ⟨p, rfl⟩
    obtain ⟨row, p', e, g1, g2⟩ := sp_srow k p C x1 x2 x3 x5 x6 x7 x8 x9 x10 x11 x12 (some (.int j)) hC3
    have g3 : rngO (.int (1 + (C : Int))) = some (rngL 0 (1 + C)) := rngO_nat (1 + (C : Int)) (1 + C) (by omega) (by omega)
    refine ⟨row, [some (eP p'), x1, x2, x3, some (.int C), x5, x6, x7, x8, x9, x10, x11, x12, none, some (.int j), none], ?_, ⟨g1, g2⟩, p', by simp⟩
    simp [p_l_script_parts_c2, g3, e, eRow]) ⟨p, rfl⟩ (by simp; omega)
  simp only [List.nil_append] at e
  exact ⟨rows, p', e, by simpa using hr.1, fun r hr' => hr.all (fun _ z h => h) r hr'⟩
end K24

namespace K24
open FL
theorem sp_burd (k : Nat) (p : Pool) (K : Nat) (x1 x2 x3 x4 x5 : Option D) (hK : K ≤ 3) :
    ∃ bs p', compL (bindT (.name 13)) (evC (G (k + 1)) .no) (evE (G (k + 1)) p_l_script_parts_c6) [13] (rngL 0 K) [some (eP p), x1, x2, x3, x4, x5, none, none, none, none, none, none, none, none, none, none] [] = some (eI bs, [some (eP p'), x1, x2, x3, x4, x5, none, none, none, none, none, none, none, none, none, none]) ∧ bs.length = K ∧ ∀ x ∈ bs, 0 ≤ x ∧ x < 3 := by
  rw [rngL_0]
  obtain ⟨row, ρ', e, hr, p', rfl⟩ := compL_ex (bind := bindT (.name 13)) (cond := evC (G (k + 1)) .no) (elt := evE (G (k + 1)) p_l_script_parts_c6) (vs := [13]) (fun ρ => ∃ p : Pool, ρ = [some (eP p), x1, x2, x3, x4, x5, none, none, none, none, none, none, none, none, none, none]) (fun (_ : Nat) (z : Int) => 0 ≤ z ∧ z < 3) (fun (k : Nat) => D.int (k : Int)) D.int (List.range K) (acc := []) (by
    rintro j hj ρ ⟨p, rfl⟩
    obtain ⟨v, p', e, g1, g2⟩ := draw_ok k p 3 (by omega) (by omega)
    refine ⟨v, [some (eP p'), x1, x2, x3, x4, x5, none, none, none, none, none, none, none, some (.int j), none, none], ?_, by omega, p', by simp⟩
    simp [p_l_script_parts_c6, e]) ⟨p, rfl⟩ (by simp; omega)
  exact ⟨row, p', by simpa [eI] using e, by simpa using hr.1, fun x hx => hr.all (fun _ z h => h) x hx⟩
theorem script_parts_ok (k : Nat) (p : Pool) : ∃ S p' g, run T (k + 3) i_l_script_parts [eP p] = some (ePS .own g S, [some (eP p')]) ∧ g.sh = .shr ∧ S.Ok := by
  rw [r_l_script_parts, runFn_eq rfl]
  obtain ⟨v1, p1, e1, a1, b1⟩ := draw_ok (k + 1) p 3 (by omega) (by omega)
  obtain ⟨v2, p2, e2, a2, b2⟩ := draw_ok (k + 1) p1 3 (by omega) (by omega)
  obtain ⟨v3, p3, e3, a3, b3⟩ := draw_ok (k + 1) p2 3 (by omega) (by omega)
  obtain ⟨v4, p4, e4, a4, b4⟩ := draw_ok (k + 1) p3 3 (by omega) (by omega)
  obtain ⟨v5, p5, e5, a5, b5⟩ := draw_ok (k + 1) p4 2 (by omega) (by omega)
  obtain ⟨B, hB, i1⟩ : ∃ B : Nat, B ≤ 9 ∧ L2.atI [D.int 1, D.int 2, D.int 9] v1 = some (.int B) := by
    have : v1 = 0 ∨ v1 = 1 ∨ v1 = 2 := by omega
    rcases this with rfl | rfl | rfl
    · exact ⟨1, by omega, by simp⟩
    · exact ⟨2, by omega, by simp⟩
    · exact ⟨9, by omega, by simp⟩
  obtain ⟨M, hM, i5⟩ : ∃ M : Int, (M = 3 ∨ M = 7) ∧ L2.atI [D.int 3, D.int 7] v5 = some (.int M) := by
    have : v5 = 0 ∨ v5 = 1 := by omega
    rcases this with rfl | rfl
    · exact ⟨3, by omega, by simp⟩
    · exact ⟨7, by omega, by simp⟩
  obtain ⟨K, hK⟩ : ∃ K : Nat, 1 + v2 = K := ⟨(1 + v2).toNat, by omega⟩
  obtain ⟨N, hN⟩ : ∃ K : Nat, 1 + v3 = K := ⟨(1 + v3).toNat, by omega⟩
  obtain ⟨C, hC⟩ : ∃ K : Nat, 1 + v4 = K := ⟨(1 + v4).toNat, by omega⟩
  obtain ⟨bs, p6, e6, f6, g6⟩ := sp_burd (k + 1) p5 K (some (.int B)) (some (.int K)) (some (.int N)) (some (.int C)) (some (.int M)) (by omega)
  have g1 := rngO_nat K K rfl (by omega)
  have g2 := rngO_nat N N rfl (by omega)
  obtain ⟨⟨p', blocks, shows, x9, x10, x11, x12⟩, e7, h1, h2, h3, h4⟩ := forL_st (bind := bindT (.name 9)) (body := exSs (G (k + 2)) p_l_script_parts_l1) (fun (k : Nat) => D.int (k : Int)) (fun (s : Pool × List (List (List Stm)) × List (List (List Int)) × Option D × Option D × Option D × Option D) => [some (eP s.1), some (.int B), some (.int K), some (.int N), some (.int C), some (.int M), some (.lst .shr (eI bs)), some (.lst .own (eBs .own s.2.1)), some (.lst .own (eShows .own s.2.2.1)), s.2.2.2.1, s.2.2.2.2.1, s.2.2.2.2.2.1, s.2.2.2.2.2.2, none, none, none])
    (fun l s => s.2.1.length + l.length = N ∧ s.2.2.1.length + l.length = N ∧ (∀ l ∈ s.2.1, Pw (BlkOk N C) bs l) ∧ ∀ sw ∈ s.2.2.1, sw.length ≤ 2 ∧ smalls sw (1 + C)) (by
      rintro j l ⟨q, blocks, shows, x9, x10, x11, x12⟩ ⟨t1, t2, t3, t4⟩
      simp only [List.length_cons] at t1 t2 t3 t4
      obtain ⟨line, q1, y11, y12, u1, u2⟩ := sp_line k q N C B bs M (some (.int K)) (some (.lst .shr (eI bs))) (some (.lst .own (eBs .own blocks))) (some (.lst .own (eShows .own shows))) (some (.int j)) x11 x12 (by omega) (by omega) (by omega) (by omega) hB g6 (by omega) hM
      obtain ⟨m, q2, u3, u4, u5⟩ := draw_ok (k + 1) q1 3 (by omega) (by omega)
      obtain ⟨rows, q3, u6, u7, u8⟩ := sp_show (k + 1) q2 C m.toNat (some (.int B)) (some (.int K)) (some (.int N)) (some (.int M)) (some (.lst .shr (eI bs))) (some (.lst .own (eBs .own (blocks ++ [line])))) (some (.lst .own (eShows .own shows))) (some (.int j)) none y11 (some (.int m)) (by omega) (by omega)
      have r2 := rngO_nat m m.toNat (by omega) (by omega)
      have l1 : blocks.length < 16777216 := by omega
      have l2 : shows.length < 16777216 := by omega
      have eb : eBs .own blocks ++ [.lst .own (line.map (eBlk .own))] = eBs .own (blocks ++ [line]) := by simp [eBs, eBl]
      have es : eShows .own shows ++ [.lst .own (rows.map (eRow .own))] = eShows .own (shows ++ [rows]) := by simp [eShows, eShow]
      refine ⟨(q3, blocks ++ [line], shows ++ [rows], some (.int j), none, y11, some (.int m)), .inl ?_, by simp; omega, by simp; omega, fun w hw => ?_, fun w hw => ?_⟩
      · simp [p_l_script_parts_l1, shares_ints, u1, l1, eb, u3, r2, u6, l2, es]
      · rw [List.mem_append] at hw
        rcases hw with hw | hw
        · exact t3 w hw
        · simp at hw; subst hw; exact u2
      · rw [List.mem_append] at hw
        rcases hw with hw | hw
        · exact t4 w hw
        · simp at hw; subst hw; exact ⟨by omega, u8⟩) (List.range N) (p6, [], [], none, none, none, none) ⟨by simp, by simp, by simp, by simp⟩
  simp only [List.length_nil, Nat.add_zero] at h1 h2 h3 h4
  simp only [eBs, eShows, List.map_nil] at e7
  refine ⟨⟨bs, C, blocks, shows⟩, p', .shr, ?_, rfl, ?_⟩
  · simp [f_l_script_parts, b_l_script_parts, e1, e2, e3, e4, e5, i1, i5, hK, hN, hC, g1, e6, g2, shares_ints]
    simp [rngL_0, e7, ePS, eBs, eShows]
  · exact ⟨by simp; omega, by simp; omega, g6, by simp; omega, by simp; omega, by simp; omega, by simp; omega, by simp only [h1]; exact h3, by simp [h1, h2], h4⟩
theorem are_shows_g (k : Nat) (shows : List (List (List Int))) (N C : Nat) (hl : shows.length = N) (h : ∀ s ∈ shows, s.length ≤ 2 ∧ smalls s (1 + C)) : run T (k + 5) i_are_shows [.lst .shr (eShows .shr shows), .int N, .int C] = some (.bl true, [none, none, none]) := by
  rw [r_are_shows, runFn_eq rfl]; simp [f_are_shows, b_are_shows, eqD_int, hl]
  obtain ⟨x, e⟩ := forL_chk (i := 3) (ρ := [some (D.lst .shr (eShows .shr shows)), some (D.int N), some (D.int C), none]) (body := exSs (G (k + 4)) p_are_shows_l1) (items := eShows .shr shows) (x0 := none) (by simp) fun d hd => by
    obtain ⟨s, hs, rfl⟩ := List.mem_map.mp hd
    obtain ⟨q1, q2⟩ := h s hs
    have q3 : ¬ (2 < (s.length : Int)) := by omega
    have q5 := are_rows_rows k .shr s s.length (1 + C) (1 + C) rfl (by omega) q2
    exact ⟨some (eShow .shr s), by simp [p_are_shows_l1, eShow, shares_rows, q3, q5]⟩
  simp at e
  simp [e]
theorem is_statement_ok (k : Nat) (s : Stm) (N C : Nat) (b : Int) (h : StmOk N C b s) (hb : 0 ≤ b) : run T (k + 4) i_is_statement [eStm .shr s, .int N, .int C, .int b] = some (.bl true, [none, none, none, none]) := by
  rw [r_is_statement, runFn_eq rfl]
  cases s with
  | go t =>
    have ht : t < N := h
    simp [f_is_statement, b_is_statement, eStm, eqD_int, q_gg, ht]
  | swap x y =>
    have hx : x < C := h.1
    have hy : y < C := h.2
    have nx : ¬ C ≤ x := by omega
    simp [f_is_statement, b_is_statement, eStm, eqD_int, q_sg, q_ss, hx, hy, nx]
  | upd ad c row =>
    obtain ⟨h1, h2, h3⟩ := h
    have nx : ¬ C ≤ c := by omega
    have r := is_row_row k .shr row (1 + C + b) (by omega) h3
    have m : cmpD .mem (.str (sUpd ad)) (.tup [.str sSet, .str sAdd]) = some true := by
      cases ad <;> simp [sUpd, cmpD, flatD, memD, eqD_str _ _ ok_set ok_set, eqD_str _ _ ok_set ok_add, eqD_str _ _ ok_add ok_add, ne_ta]
    simp [f_is_statement, b_is_statement, eStm, eqD_int, q_ug, q_us, nx, h1, m, shares_ints, r]
theorem is_block_ok (k : Nat) (blk : List Stm) (N C : Nat) (b : Int) (h : BlkOk N C b blk) (hb : 0 ≤ b) : run T (k + 5) i_is_block [eBlk .shr blk, .int N, .int C, .int b] = some (.bl true, [none, none, none, none]) := by
  rw [r_is_block, runFn_eq rfl]
  have hl : ¬ (6 < (blk.length : Int)) := by have := h.1; omega
  obtain ⟨x, e⟩ := forL_chk (i := 4) (ρ := [some (eBlk .shr blk), some (D.int N), some (D.int C), some (D.int b), none]) (body := exSs (G (k + 4)) p_is_block_l1) (items := blk.map (eStm .shr)) (x0 := none) (by simp) fun d hd => by
    obtain ⟨s, hs, rfl⟩ := List.mem_map.mp hd
    have q := is_statement_ok k s N C b (h.2 s hs) hb
    exact ⟨some (eStm .shr s), by simp [p_is_block_l1, q]⟩
  simp [eBlk] at e
  simp [f_is_block, b_is_block, eBlk, hl, shares_eStm, e]
end K24

namespace K24
open FL
theorem are_blocks_ok (k : Nat) (S : SD) (h : S.Ok) : run T (k + 6) i_are_blocks [.lst .shr (eBs .shr S.blocks), .int S.cells, .lst .shr (eI S.bs)] = some (.bl true, [none, none, none]) := by
  have a1 : (1 : Int) ≤ S.blocks.length := by have := h.n1; omega
  have a3 : (S.blocks.length : Int) ≤ 3 := by have := h.n3; omega
  rw [r_are_blocks, runFn_eq rfl]; simp [f_are_blocks, b_are_blocks, shares_ints, a1, a3]
  obtain ⟨ρ', e, _, x, y, z, rfl⟩ := forL_inv' (bind := bindT (.name 3)) (body := exSs (G (k + 5)) p_are_blocks_l1) (fun ds ρ => (∃ ls, ds = eBs .shr ls ∧ ∀ l ∈ ls, l ∈ S.blocks) ∧ ∃ x y z, ρ = [some (D.lst .shr (eBs .shr S.blocks)), some (D.int S.cells), some (D.lst .shr (eI S.bs)), x, y, z]) (by
    rintro d ds _ ⟨⟨ls, hd, hm⟩, x, y, z, rfl⟩
    cases ls with
    | nil => cases hd
    | cons l ls =>
      simp only [eBs, List.map_cons, List.cons.injEq] at hd
      obtain ⟨rfl, rfl⟩ := hd
      have hl := h.line l (hm l (by simp))
      obtain ⟨u, v, e⟩ := forL_chk2 (i := 4) (j := 5) (ρ := [some (D.lst .shr (eBs .shr S.blocks)), some (D.int S.cells), some (D.lst .shr (eI S.bs)), some (eBl .shr l), y, z]) (body := exSs (G (k + 5)) p_are_blocks_l2) (items := enumL 0 (l.map (eBlk .shr))) (x0 := y) (y0 := z) (by simp) (by simp) (by simp) fun d hd => by
        obtain ⟨j, x, e, rfl⟩ := enumL_mem hd
        rw [List.getElem?_map] at e
        obtain ⟨blk, e1, rfl⟩ := mpd e
        have hj : j < S.bs.length := by rw [← hl.1]; exact (List.getElem?_eq_some_iff.mp e1).1
        have eb : S.bs[j]? = some S.bs[j] := List.getElem?_eq_getElem hj
        refine ⟨_, _, rfl, some (.int (j : Nat)), some (eBlk .shr blk), ?_⟩
        have ai : L2.atI (eI S.bs) (j : Int) = some (.int S.bs[j]) := by rw [atI_nat, eI_get, eb]; rfl
        have q5 := is_block_ok k blk S.blocks.length S.cells S.bs[j] (hl.2 j _ _ eb e1) (h.b _ (List.getElem_mem hj)).1
        simp [p_are_blocks_l2, shares_ints, ai, q5]
      simp at e
      refine ⟨[some (D.lst .shr (eBs .shr S.blocks)), some (D.int S.cells), some (D.lst .shr (eI S.bs)), some (eBl .shr l), u, v], .inl (by simp [p_are_blocks_l1, eBl, shares_eBlk, shares_ints, eqD_int, hl.1, eI_len]; simp [eBl] at e; rw [e]; simp), ⟨ls, rfl, fun l hl => hm l (by simp [hl])⟩, _, _, _, rfl⟩) ⟨⟨S.blocks, rfl, fun l hl => hl⟩, none, none, none, rfl⟩
  rw [e]; simp
theorem copied_statement_ok (k : Nat) (s : Stm) : run T (k + 1) i_copied_statement [eStm .shr s] = some (eStm .own s, [none]) := by
  rw [r_copied_statement, runFn_eq rfl]
  cases s with
  | go t =>
    have m : cmpD .mem (.str sGo) (.tup [.str sSet, .str sAdd]) = some false := by
      simp [cmpD, flatD, memD, q_tg, q_ag]
    simp [f_copied_statement, b_copied_statement, eStm, m]
  | swap x y =>
    have m : cmpD .mem (.str sSwap) (.tup [.str sSet, .str sAdd]) = some false := by
      simp [cmpD, flatD, memD, q_ts, q_as]
    simp [f_copied_statement, b_copied_statement, eStm, m]
  | upd ad c row =>
    have m : cmpD .mem (.str (sUpd ad)) (.tup [.str sSet, .str sAdd]) = some true := by
      cases ad <;> simp [sUpd, cmpD, flatD, memD, eqD_str _ _ ok_set ok_set, eqD_str _ _ ok_set ok_add, eqD_str _ _ ok_add ok_add, ne_ta]
    simp [f_copied_statement, b_copied_statement, eStm, m, shares_ints]
theorem l_copied_ok (k : Nat) (s : Stm) : run T (k + 1) i_l_copied [eStm .shr s] = some (eStm .own s, [none]) := by
  rw [r_l_copied, runFn_eq rfl]
  cases s with
  | go t => simp [f_l_copied, b_l_copied, eStm, q_gt, q_ga]
  | swap x y => simp [f_l_copied, b_l_copied, eStm, q_st, q_sa]
  | upd ad c row => cases ad <;> simp [f_l_copied, b_l_copied, eStm, q_ut, q_ua, shares_ints]
/-- the script's object -/
def eS (f : Fl) (S : SD) : D := .obj f (PySem.Str.ofString "Script") [PySem.Str.ofString "burdens", PySem.Str.ofString "many", PySem.Str.ofString "blocks", PySem.Str.ofString "shows"] [.lst f (eI S.bs), .int S.cells, .lst f (eBs f S.blocks), .lst f (eShows f S.shows)]
@[simp] theorem share_eS (f : Fl) (S : SD) : share (eS f S) = eS f.sh S := by simp [eS, shares_ints]
theorem sn1 : (PySem.Str.ofString "many" = PySem.Str.ofString "burdens") = False := by decide +kernel
theorem sn2 : (PySem.Str.ofString "blocks" = PySem.Str.ofString "burdens") = False := by decide +kernel
theorem sn3 : (PySem.Str.ofString "blocks" = PySem.Str.ofString "many") = False := by decide +kernel
theorem sn4 : (PySem.Str.ofString "shows" = PySem.Str.ofString "burdens") = False := by decide +kernel
theorem sn5 : (PySem.Str.ofString "shows" = PySem.Str.ofString "many") = False := by decide +kernel
theorem sn6 : (PySem.Str.ofString "shows" = PySem.Str.ofString "blocks") = False := by decide +kernel
theorem sf_b (f : Fl) (ns : List PySem.Str) (ds : List D) : hasFld T.cs (PySem.Str.ofString "burdens") (.obj f (PySem.Str.ofString "Script") ns ds) = true := by simp only [hasFld]; decide +kernel
theorem sf_m (f : Fl) (ns : List PySem.Str) (ds : List D) : hasFld T.cs (PySem.Str.ofString "many") (.obj f (PySem.Str.ofString "Script") ns ds) = true := by simp only [hasFld]; decide +kernel
theorem sf_k (f : Fl) (ns : List PySem.Str) (ds : List D) : hasFld T.cs (PySem.Str.ofString "blocks") (.obj f (PySem.Str.ofString "Script") ns ds) = true := by simp only [hasFld]; decide +kernel
theorem sf_s (f : Fl) (ns : List PySem.Str) (ds : List D) : hasFld T.cs (PySem.Str.ofString "shows") (.obj f (PySem.Str.ofString "Script") ns ds) = true := by simp only [hasFld]; decide +kernel
theorem sh_b (f : Fl) (S : SD) : hasFld T.cs (PySem.Str.ofString "burdens") (eS f S) = true := sf_b _ _ _
theorem sh_m (f : Fl) (S : SD) : hasFld T.cs (PySem.Str.ofString "many") (eS f S) = true := sf_m _ _ _
theorem sh_k (f : Fl) (S : SD) : hasFld T.cs (PySem.Str.ofString "blocks") (eS f S) = true := sf_k _ _ _
theorem sh_s (f : Fl) (S : SD) : hasFld T.cs (PySem.Str.ofString "shows") (eS f S) = true := sf_s _ _ _
theorem sg_b (f : Fl) (S : SD) : fldD (eS f S) (PySem.Str.ofString "burdens") = some (.lst f.sh (eI S.bs)) := by simp [eS, fldD, look]
theorem sg_m (f : Fl) (S : SD) : fldD (eS f S) (PySem.Str.ofString "many") = some (.int S.cells) := by simp [eS, fldD, look, sn1]
theorem sg_k (f : Fl) (S : SD) : fldD (eS f S) (PySem.Str.ofString "blocks") = some (.lst f.sh (eBs f.sh S.blocks)) := by simp [eS, fldD, look, sn2, sn3]
theorem sg_s (f : Fl) (S : SD) : fldD (eS f S) (PySem.Str.ofString "shows") = some (.lst f.sh (eShows f.sh S.shows)) := by simp [eS, fldD, look, sn4, sn5, sn6]
theorem sinit_ok (k : Nat) (S : SD) (h : S.Ok) : run T (k + 7) i_Scriptu_initu [.obj .own (PySem.Str.ofString "Script") [] [], .lst .shr (eI S.bs), .int S.cells, .lst .shr (eBs .shr S.blocks), .lst .shr (eShows .shr S.shows)] = some (.non, [some (eS .own S), none, none, none, none]) := by
  rw [r_Scriptu_initu, runFn_eq rfl]
  have e1 := are_burdens_ok (k + 2) .shr S.bs h.k1 h.k3 h.b
  have e2 := is_index_int (k + 4) S.cells 4
  have e3 := are_blocks_ok k S h
  have e4 := are_shows_g (k + 1) S.shows S.blocks.length S.cells h.sh h.shw
  have hc1 := h.c1
  have hc3 := h.c3
  have hn3 := h.n3
  have c4 : (S.cells : Int) < 4 := by omega
  have c4' : ¬ (4 ≤ (S.cells : Int)) := by omega
  have c0 : ((S.cells : Int) == 0) = false := by simp; omega
  have key := compL_mapT (bind := bindT (.name 5)) (cond := evC (G (k + 6)) .no) (elt := evE (G (k + 6)) p_Scriptu_initu_c2) (vs := [5]) (ρ := [some (.obj .own (PySem.Str.ofString "Script") [PySem.Str.ofString "burdens", PySem.Str.ofString "many"] [.lst .own (eI S.bs), .int S.cells]), none, none, some (.lst .shr (eBs .shr S.blocks)), some (.lst .shr (eShows .shr S.shows)), none, none, none, none]) (eBl .shr) (eBl .own) S.blocks (acc := []) (fun l hl => by
    have hl' := h.line l hl
    have in1 := compL_mapT (bind := bindT (.name 7)) (cond := evC (G (k + 6)) .no) (elt := evE (G (k + 6)) p_Scriptu_initu_c3) (vs := [7]) (ρ := [some (.obj .own (PySem.Str.ofString "Script") [PySem.Str.ofString "burdens", PySem.Str.ofString "many"] [.lst .own (eI S.bs), .int S.cells]), none, none, some (.lst .shr (eBs .shr S.blocks)), some (.lst .shr (eShows .shr S.shows)), some (eBl .shr l), none, none, none]) (eBlk .shr) (eBlk .own) l (acc := []) (fun blk hb => by
      obtain ⟨j, hj⟩ := List.getElem?_of_mem hb
      have hjl : j < S.bs.length := by rw [← hl'.1]; exact (List.getElem?_eq_some_iff.mp hj).1
      have hbo := hl'.2 j _ _ (List.getElem?_eq_getElem hjl) hj
      have in2 := compL_mapT (bind := bindT (.name 8)) (cond := evC (G (k + 6)) .no) (elt := evE (G (k + 6)) p_Scriptu_initu_c4) (vs := [8]) (ρ := [some (.obj .own (PySem.Str.ofString "Script") [PySem.Str.ofString "burdens", PySem.Str.ofString "many"] [.lst .own (eI S.bs), .int S.cells]), none, none, some (.lst .shr (eBs .shr S.blocks)), some (.lst .shr (eShows .shr S.shows)), some (eBl .shr l), none, some (eBlk .shr blk), none]) (eStm .shr) (eStm .own) blk (acc := []) (fun s hs => by
        refine ⟨[some (.obj .own (PySem.Str.ofString "Script") [PySem.Str.ofString "burdens", PySem.Str.ofString "many"] [.lst .own (eI S.bs), .int S.cells]), none, none, some (.lst .shr (eBs .shr S.blocks)), some (.lst .shr (eShows .shr S.shows)), some (eBl .shr l), none, some (eBlk .shr blk), some (eStm .shr s)], ?_, by simp⟩
        simp [p_Scriptu_initu_c4, copied_statement_ok]) (by have := hbo.1; simp; omega)
      refine ⟨[some (.obj .own (PySem.Str.ofString "Script") [PySem.Str.ofString "burdens", PySem.Str.ofString "many"] [.lst .own (eI S.bs), .int S.cells]), none, none, some (.lst .shr (eBs .shr S.blocks)), some (.lst .shr (eShows .shr S.shows)), some (eBl .shr l), none, some (eBlk .shr blk), none], ?_, by simp⟩
      simp [eBlk] at in2
      simp [p_Scriptu_initu_c3, eBlk, shares_eStm, in2]) (by rw [hl'.1]; have := h.k3; simp; omega)
    refine ⟨[some (.obj .own (PySem.Str.ofString "Script") [PySem.Str.ofString "burdens", PySem.Str.ofString "many"] [.lst .own (eI S.bs), .int S.cells]), none, none, some (.lst .shr (eBs .shr S.blocks)), some (.lst .shr (eShows .shr S.shows)), some (eBl .shr l), none, none, none], ?_, by simp⟩
    simp [eBl] at in1
    simp [p_Scriptu_initu_c2, eBl, shares_eBlk, in1]) (by simp; omega)
  change compL _ _ _ _ (eBs .shr S.blocks) _ _ = some (eBs .own S.blocks, _) at key
  have key2 := compL_mapT (bind := bindT (.name 6)) (cond := evC (G (k + 6)) .no) (elt := evE (G (k + 6)) p_Scriptu_initu_c1) (vs := [6]) (ρ := [some (.obj .own (PySem.Str.ofString "Script") [PySem.Str.ofString "burdens", PySem.Str.ofString "many", PySem.Str.ofString "blocks"] [.lst .own (eI S.bs), .int S.cells, .lst .own (eBs .own S.blocks)]), none, none, some (.lst .shr (eBs .shr S.blocks)), some (.lst .shr (eShows .shr S.shows)), none, none, none, none]) (eShow .shr) (eShow .own) S.shows (acc := []) (fun s hs => by
    have q := h.shw s hs
    refine ⟨[some (.obj .own (PySem.Str.ofString "Script") [PySem.Str.ofString "burdens", PySem.Str.ofString "many", PySem.Str.ofString "blocks"] [.lst .own (eI S.bs), .int S.cells, .lst .own (eBs .own S.blocks)]), none, none, some (.lst .shr (eBs .shr S.blocks)), some (.lst .shr (eShows .shr S.shows)), none, some (eShow .shr s), none, none], ?_, by simp⟩
    simp [p_Scriptu_initu_c1, eShow, shares_rows, copied_ok (k + 5) .shr s (by simp; omega)]) (by rw [h.sh]; simp; omega)
  change compL _ _ _ _ (eShows .shr S.shows) _ _ = some (eShows .own S.shows, _) at key2
  simp [f_Scriptu_initu, b_Scriptu_initu, shares_ints, e1, eqD_int, c4, c4', c0, e3, e4, setFD, putD, sf_b, sf_m, sf_k, sf_s, sn1, sn2, sn3, sn4, sn5, sn6, key, key2, eS]
end K24

namespace K24
open FL
def stepS (m : List Int) (st : Int × List Int) : Stm → Int × List Int
  | .go t => (t, st.2)
  | .swap a b => (st.1, (st.2.set a (st.2[b]?.getD 0)).set b (st.2[a]?.getD 0))
  | .upd ad c row => (st.1, st.2.set c (if ad = true then dotI row (1 :: (st.2 ++ m)) + st.2[c]?.getD 0 else dotI row (1 :: (st.2 ++ m))))
def runS (m : List Int) (blk : List Stm) (st : Int × List Int) : Int × List Int := blk.foldl (stepS m) st
theorem stepS_len (m : List Int) (st : Int × List Int) (s : Stm) : (stepS m st s).2.length = st.2.length := by
  cases s <;> simp [stepS]
theorem at_i (f : Fl) (v : List Int) (c : Nat) (h : c < v.length) : L2.atI (eI v) (c : Int) = some (.int (v[c]?.getD 0)) := by
  rw [atI_nat, eI_get, List.getElem?_eq_getElem h]; rfl
theorem hear_step (k : Nat) (m : List Int) (hm : m.length ≤ 2) (C : Nat) (N : Nat) (hC : C ≤ 3) (sc : D) (stD msD : D) (hms : idxD msD (.int 1) = some (.tup (eI m))) (hsd : share msD = msD) (s : Stm) (hs : StmOk N C m.length s) (st : Int × List Int) (hl : st.2.length = C) (x5 x6 x7 x8 : Option D) :
    ∃ y5 y6 y7 y8, (bindT (.name 5) (eStm .shr s) [some sc, some stD, some msD, some (.int st.1), some (.lst .own (eI st.2)), x5, x6, x7, x8]).bind (exSs (G (k + 1)) p_script_hear_l1) = some (.nx [some sc, some stD, some msD, some (.int (stepS m st s).1), some (.lst .own (eI (stepS m st s).2)), y5, y6, y7, y8]) := by
  obtain ⟨c0, v⟩ := st
  simp only at hl
  cases s with
  | go t =>
    refine ⟨some (eStm .shr (.go t)), some (.str sGo), none, x8, ?_⟩
    simp [p_script_hear_l1, eStm, q_gg, stepS]
  | swap a b =>
    obtain ⟨ha, hb⟩ := hs
    have ixa : L2.ixN v.length (a : Int) = some a := ixN_ok _ _ (by omega)
    have ixb : L2.ixN v.length (b : Int) = some b := ixN_ok _ _ (by omega)
    have ga : v[a]? = some v[a] := List.getElem?_eq_getElem (by omega)
    have gb : v[b]? = some v[b] := List.getElem?_eq_getElem (by omega)
    refine ⟨some (eStm .shr (.swap a b)), some (.str sSwap), some (.int a), x8, ?_⟩
    have l1 : (v.set a v[b]).length = v.length := by simp
    have sa : (eI v).set a (.int v[a]) = eI v := by rw [eI_set]; congr 1; exact List.set_getElem_self (by omega)
    have sb : (eI v).set b (.int v[b]) = eI v := by rw [eI_set]; congr 1; exact List.set_getElem_self (by omega)
    have l2 : (eI v).length = v.length := by simp [eI]
    simp [p_script_hear_l1, eStm, q_sg, q_ss, stepS, eI_get, eI_len, ixa, ixb, ga, gb, sa, sb, eI_set, l1]
  | upd ad c row =>
    obtain ⟨h1, h2, h3⟩ := hs
    have ixc : L2.ixN v.length (c : Int) = some c := ixN_ok _ _ (by omega)
    have gc : v[c]? = some v[c] := List.getElem?_eq_getElem (by omega)
    have sc' : (eI v).set c (.int v[c]) = eI v := by rw [eI_set]; congr 1; exact List.set_getElem_self (by omega)
    have dt := dot_ok k .shr .shr row (1 :: (v ++ m)) h3 (by simp; omega)
    have ev : eI (1 :: (v ++ m)) = D.int 1 :: (eI v ++ eI m) := by simp [eI]
    rw [ev] at dt
    have cl : closedL (eI v ++ eI m) = true := by
      have := closed_eI (v ++ m)
      have e2 : eI (v ++ m) = eI v ++ eI m := by simp [eI]
      rwa [e2] at this
    have sz : v.length + m.length ≤ 16777215 := by omega
    have she : shares (eI v ++ eI m) = eI v ++ eI m := by
      have e2 : eI (v ++ m) = eI v ++ eI m := by simp [eI]
      rw [← e2]; simp [shares_ints]
    have au : ∀ a b : Int, augD .add (.int a) (.int b) = some (.int (a + b)) := fun _ _ => by simp only [augD]
    refine ⟨none, some (.str (sUpd ad)), none, none, ?_⟩
    cases ad with
    | true => simp [au, p_script_hear_l1, eStm, q_ug, q_us, q_ua, stepS, hms, hsd, shares_ints, eI_len, sz, cl, she, dt, eI_get, ixc, gc, sc', eI_set]
    | false => simp [p_script_hear_l1, eStm, q_ug, q_us, q_ua, stepS, hms, hsd, shares_ints, eI_len, sz, cl, she, dt, eI_get, ixc, gc, sc', eI_set]
theorem runS_len (m : List Int) : ∀ (blk : List Stm) (st : Int × List Int), (runS m blk st).2.length = st.2.length
  | [], st => rfl
  | s :: blk, st => by
    show (runS m blk (stepS m st s)).2.length = _
    rw [runS_len m blk, stepS_len]
theorem hear_loop (k : Nat) (m : List Int) (hm : m.length ≤ 2) (C N : Nat) (hC : C ≤ 3) (sc : D) (stD msD : D) (hms : idxD msD (.int 1) = some (.tup (eI m))) (hsd : share msD = msD) : ∀ (blk : List Stm) (st : Int × List Int) (x5 x6 x7 x8 : Option D), (∀ s ∈ blk, StmOk N C m.length s) → st.2.length = C →
    ∃ y5 y6 y7 y8, forL (bindT (.name 5)) (exSs (G (k + 1)) p_script_hear_l1) (blk.map (eStm .shr)) [some sc, some stD, some msD, some (.int st.1), some (.lst .own (eI st.2)), x5, x6, x7, x8] = some (.nx [some sc, some stD, some msD, some (.int (runS m blk st).1), some (.lst .own (eI (runS m blk st).2)), y5, y6, y7, y8])
  | [], st, x5, x6, x7, x8, _, _ => ⟨x5, x6, x7, x8, rfl⟩
  | s :: blk, st, x5, x6, x7, x8, h, hl => by
    obtain ⟨y5, y6, y7, y8, e⟩ := hear_step k m hm C N hC sc stD msD hms hsd s (h s (by simp)) st hl x5 x6 x7 x8
    obtain ⟨z5, z6, z7, z8, e2⟩ := hear_loop k m hm C N hC sc stD msD hms hsd blk (stepS m st s) y5 y6 y7 y8 (fun s hs => h s (by simp [hs])) (by rw [stepS_len]; exact hl)
    refine ⟨z5, z6, z7, z8, ?_⟩
    simp only [List.map_cons, forL]
    obtain ⟨ρ1, f1, f2⟩ := bnd e
    rw [f1]
    simp only [Option.bind_some]
    rw [f2]
    simp only [Option.bind_some]
    exact e2
/-- the block of a message at a stand -/
def SD.blk (S : SD) (s m : Int × List Int) : List Stm := (S.blocks[s.1.toNat]?.getD [])[m.1.toNat]?.getD []
def sheard (S : SD) (s m : Int × List Int) : Int × List Int := runS m.2 (S.blk s m) s
structure SStand (S : SD) (s : Int × List Int) : Prop where
  lo : 0 ≤ s.1
  hi : s.1 < S.blocks.length
  n : s.2.length = S.cells
theorem blk_at {S : SD} (h : S.Ok) {s m : Int × List Int} (hs : SStand S s) (hm : MsgOk S.bs m) : ∃ l, S.blocks[s.1.toNat]? = some l ∧ l[m.1.toNat]? = some (S.blk s m) ∧ BlkOk S.blocks.length S.cells m.2.length (S.blk s m) := by
  have a : s.1.toNat < S.blocks.length := by have := hs.lo; have := hs.hi; omega
  have e1 : S.blocks[s.1.toNat]? = some S.blocks[s.1.toNat] := List.getElem?_eq_getElem a
  have hl := h.line _ (List.getElem_mem a)
  obtain ⟨j, ej, eb⟩ := hm
  have hj := (List.getElem?_eq_some_iff.mp eb).1
  have ejj : m.1.toNat = j := by omega
  have b : j < S.blocks[s.1.toNat].length := by rw [hl.1]; exact hj
  have e2 : S.blocks[s.1.toNat][j]? = some (S.blk s m) := by
    rw [List.getElem?_eq_getElem b]
    unfold SD.blk
    rw [e1, ejj]
    simp [b]
  exact ⟨_, e1, by rw [ejj]; exact e2, hl.2 j _ _ eb e2⟩
theorem script_hear_ok (k : Nat) (S : SD) (h : S.Ok) (s m : Int × List Int) (hs : SStand S s) (hm : MsgOk S.bs m) : run T (k + 6) i_script_hear [eS .shr S, eStand s, eMsg m] = some (eStand (sheard S s m), [none, none, none]) := by
  rw [r_script_hear, runFn_eq rfl]
  obtain ⟨l, g1, g2, g3⟩ := blk_at h hs hm
  have e1 := check_stand_ok (k + 1) s S.blocks.length S.cells hs.lo hs.hi (by rw [hs.n])
  have e2 := check_messages_ok k .shr S.bs [m] (by simp; exact hm)
  simp only [List.map_cons, List.map_nil] at e2
  have hml : m.2.length ≤ 2 := by
    obtain ⟨j, ej, eb⟩ := hm
    have := h.b _ (List.mem_of_getElem? eb)
    omega
  obtain ⟨y5, y6, y7, y8, e3⟩ := hear_loop (k + 4) m.2 hml S.cells S.blocks.length h.c3 (eS .shr S) (eStand s) (eStand m) (by simp [eStand, shares_ints]) (by simp) (S.blk s m) s none none none none g3.2 hs.n
  have j1 : L2.atI (eBs .shr S.blocks) s.1 = some (eBl .shr l) := by
    have : s.1 = (s.1.toNat : Int) := by have := hs.lo; omega
    rw [this, atI_nat]; unfold eBs; rw [List.getElem?_map, g1]; rfl
  have j2 : L2.atI (l.map (eBlk .shr)) m.1 = some (eBlk .shr (S.blk s m)) := by
    have : m.1 = (m.1.toNat : Int) := by have := hm.lt; omega
    rw [this, atI_nat, List.getElem?_map, g2]; rfl
  have k1 : idxD (.lst .shr (eBs .shr S.blocks)) (.int s.1) = some (eBl .shr l) := by simp [j1]
  have k2 : idxD (eBl .shr l) (.int m.1) = some (eBlk .shr (S.blk s m)) := by simp [eBl, j2]
  have k3 : idxD (eStand s) (.int 0) = some (.int s.1) := by simp [eStand]
  have k4 : idxD (eStand m) (.int 0) = some (.int m.1) := by simp [eStand]
  have k5 : idxD (eStand s) (.int 1) = some (.tup (eI s.2)) := by simp [eStand, shares_ints]
  have it : itemsO (eBlk .shr (S.blk s m)) = some ((S.blk s m).map (eStm .shr)) := by simp [eBlk, shares_eStm]
  simp only [f_script_hear, b_script_hear]
  simp [sh_k, sg_k, sh_m, sg_m, sh_b, sg_b, e1, e2, k1, k2, k3, k4, k5, it, shares_ints, e3, -idx_l, -idx_t]
  simp [eStand, sheard]
end K24

namespace K24
open FL
theorem sstand_ok (k : Nat) (p : Pool) (S : SD) (h : S.Ok) : ∃ s p', run T (k + 3) i_l_script_stand [eP p, ePS .shr .shr S] = some (eStand s, [some (eP p'), none]) ∧ SStand S s := by
  rw [r_l_script_stand, runFn_eq rfl]
  have hn1 := h.n1
  have hn3 := h.n3
  have hc3 := h.c3
  obtain ⟨v1, p1, e1, a1, b1⟩ := draw_ok (k + 1) p S.blocks.length (by omega) (by omega)
  have g1 := rngO_nat S.cells S.cells rfl (by omega)
  obtain ⟨xs, ρ', e, hr, p', rfl⟩ := compL_ex (bind := bindT (.name 3)) (cond := evC (G (k + 2)) .no) (elt := evE (G (k + 2)) p_l_script_stand_c1) (vs := [3]) (fun ρ => ∃ p : Pool, ρ = [some (eP p), some (ePS .shr .shr S), none, none]) (fun (_ : Nat) (z : Int) => True) (fun (k : Nat) => D.int (k : Int)) D.int (List.range S.cells) (acc := []) (by
    rintro i hi ρ ⟨p, rfl⟩
    obtain ⟨v, p', e⟩ := number_ok k p
    refine ⟨v, [some (eP p'), some (ePS .shr .shr S), none, some (.int i)], ?_, trivial, p', by simp⟩
    simp [p_l_script_stand_c1, e]) ⟨p1, rfl⟩ (by simp; omega)
  refine ⟨(v1, xs), p', ?_, a1, b1, by simpa using hr.1⟩
  rw [List.nil_append] at e
  change compL _ _ _ _ _ _ _ = some (eI xs, _) at e
  have k1 : idxD (ePS .shr .shr S) (.int 1) = some (.int S.cells) := by simp [ePS]
  have k2 : idxD (ePS .shr .shr S) (.int 2) = some (.lst .shr (eBs .shr S.blocks)) := by simp [ePS]
  simp [f_l_script_stand, b_l_script_stand, k1, k2, e1, g1, rngL_0, e, eStand, -idx_l]
theorem smessage_ok (k : Nat) (p : Pool) (S : SD) (h : S.Ok) : ∃ m p', run T (k + 3) i_l_script_message [eP p, ePS .shr .shr S] = some (eMsg m, [some (eP p'), none]) ∧ MsgOk S.bs m := by
  rw [r_l_script_message, runFn_eq rfl]
  have hk1 := h.k1
  have hk3 := h.k3
  obtain ⟨v1, p1, e1, a1, b1⟩ := draw_ok (k + 1) p S.bs.length (by omega) (by omega)
  obtain ⟨j, rfl⟩ : ∃ j : Nat, v1 = j := ⟨v1.toNat, by omega⟩
  have hj : j < S.bs.length := by omega
  have hb := h.b _ (List.getElem_mem hj)
  have a1 : L2.atI (eI S.bs) (j : Int) = some (.int S.bs[j]) := by rw [atI_nat, eI_get, List.getElem?_eq_getElem hj]; rfl
  have g1 := rngO_nat S.bs[j] S.bs[j].toNat (by omega) (by omega)
  obtain ⟨xs, ρ', e, hr, p', rfl⟩ := compL_ex (bind := bindT (.name 3)) (cond := evC (G (k + 2)) .no) (elt := evE (G (k + 2)) p_l_script_message_c1) (vs := [3]) (fun ρ => ∃ p : Pool, ρ = [some (eP p), some (ePS .shr .shr S), some (.int j), none]) (fun (_ : Nat) (z : Int) => True) (fun (k : Nat) => D.int (k : Int)) D.int (List.range S.bs[j].toNat) (acc := []) (by
    rintro i hi ρ ⟨p, rfl⟩
    obtain ⟨v, p', e⟩ := number_ok k p
    refine ⟨v, [some (eP p'), some (ePS .shr .shr S), some (.int j), some (.int i)], ?_, trivial, p', by simp⟩
    simp [p_l_script_message_c1, e]) ⟨p1, rfl⟩ (by simp; omega)
  have k0 : idxD (ePS .shr .shr S) (.int 0) = some (.lst .shr (eI S.bs)) := by simp [ePS]
  have k1 : idxD (.lst .shr (eI S.bs)) (.int (j : Int)) = some (.int S.bs[j]) := by simp [a1]
  refine ⟨(j, xs), p', ?_, j, rfl, ?_⟩
  · rw [List.nil_append] at e
    change compL _ _ _ _ _ _ _ = some (eI xs, _) at e
    simp [f_l_script_message, b_l_script_message, k0, k1, eI_len, e1, g1, rngL_0, e, eStand, -idx_l]
  · have := hr.1
    simp at this
    rw [List.getElem?_eq_getElem hj]
    simp only [this]
    congr 1
    omega
theorem blocks_copy_ok (k : Nat) (S : SD) (h : S.Ok) : run T (k + 2) i_l_blocks_copy [.lst .shr (eBs .shr S.blocks)] = some (.lst .own (eBs .own S.blocks), [none]) := by
  rw [r_l_blocks_copy, runFn_eq rfl]
  have hn3 := h.n3
  obtain ⟨⟨done, x2⟩, e, h1⟩ := forL_ix (bind := bindT (.name 2)) (body := exSs (G (k + 1)) p_l_blocks_copy_l1) (eBl .shr) (fun (s : List (List (List Stm)) × Option D) => [some (.lst .shr (eBs .shr S.blocks)), some (.lst .own (eBs .own s.1)), s.2, none, none]) S.blocks (fun j s => s.1 = S.blocks.take j) (by
    rintro j l ⟨done, x2⟩ hj hd
    simp only at hd
    have hl := h.line l (List.mem_of_getElem? hj)
    have in1 := compL_mapT (bind := bindT (.name 3)) (cond := evC (G (k + 1)) .no) (elt := evE (G (k + 1)) p_l_blocks_copy_c2) (vs := [3]) (ρ := [some (.lst .shr (eBs .shr S.blocks)), some (.lst .own (eBs .own done)), some (eBl .shr l), none, none]) (eBlk .shr) (eBlk .own) l (acc := []) (fun blk hb => by
      obtain ⟨i, hi⟩ := List.getElem?_of_mem hb
      have hil : i < S.bs.length := by rw [← hl.1]; exact (List.getElem?_eq_some_iff.mp hi).1
      have hbo := hl.2 i _ _ (List.getElem?_eq_getElem hil) hi
      have in2 := compL_mapT (bind := bindT (.name 4)) (cond := evC (G (k + 1)) .no) (elt := evE (G (k + 1)) p_l_blocks_copy_c3) (vs := [4]) (ρ := [some (.lst .shr (eBs .shr S.blocks)), some (.lst .own (eBs .own done)), some (eBl .shr l), some (eBlk .shr blk), none]) (eStm .shr) (eStm .own) blk (acc := []) (fun s hs => by
        refine ⟨[some (.lst .shr (eBs .shr S.blocks)), some (.lst .own (eBs .own done)), some (eBl .shr l), some (eBlk .shr blk), some (eStm .shr s)], ?_, by simp⟩
        simp [p_l_blocks_copy_c3, l_copied_ok]) (by have := hbo.1; simp; omega)
      refine ⟨[some (.lst .shr (eBs .shr S.blocks)), some (.lst .own (eBs .own done)), some (eBl .shr l), some (eBlk .shr blk), none], ?_, by simp⟩
      simp [eBlk] at in2
      simp [p_l_blocks_copy_c2, eBlk, shares_eStm, in2]) (by rw [hl.1]; have := h.k3; simp; omega)
    have hjl := (List.getElem?_eq_some_iff.mp hj).1
    have hdl : done.length < 16777216 := by rw [hd]; simp; omega
    refine ⟨(done ++ [l], some (eBl .shr l)), .inl ?_, ?_⟩
    · simp [eBl] at in1
      have eb : eBs .own done ++ [.lst .own (l.map (eBlk .own))] = eBs .own (done ++ [l]) := by simp [eBs, eBl]
      simp [p_l_blocks_copy_l1, eBl, shares_eBlk, in1, hdl, eb]
    · simp only [hd]
      rw [List.take_succ_eq_append_getElem hjl]
      have : S.blocks[j] = l := by
        rw [List.getElem?_eq_getElem hjl] at hj
        exact Option.some.inj hj
      rw [this]) ([], none) rfl
  simp only at e h1
  rw [List.take_length] at h1
  subst h1
  rw [show eBs .own [] = [] from rfl] at e
  change forL _ _ (eBs .shr S.blocks) _ = _ at e
  simp [f_l_blocks_copy, b_l_blocks_copy, e]
end K24

namespace K24
open FL
@[simp] theorem is_integer_bl (k : Nat) (b : Bool) : run T (k + 1) i_is_integer [.bl b] = some (.bl false, [none]) := by
  rw [r_is_integer, runFn_eq rfl]; simp [f_is_integer, b_is_integer]
@[simp] theorem is_integer_non (k : Nat) : run T (k + 1) i_is_integer [.non] = some (.bl false, [none]) := by
  rw [r_is_integer, runFn_eq rfl]; simp [f_is_integer, b_is_integer]
@[simp] theorem is_integer_str (k : Nat) (x : PySem.Str) : run T (k + 1) i_is_integer [.str x] = some (.bl false, [none]) := by
  rw [r_is_integer, runFn_eq rfl]; simp [f_is_integer, b_is_integer]
def NotInt (d : D) : Prop := share d = d ∧ ∀ k, run T (k + 1) i_is_integer [d] = some (.bl false, [none])
theorem ni_bl (b : Bool) : NotInt (.bl b) := ⟨by simp, fun k => is_integer_bl k b⟩
theorem ni_non : NotInt .non := ⟨by simp, fun k => is_integer_non k⟩
theorem ni_str (x : PySem.Str) : NotInt (.str x) := ⟨by simp, fun k => is_integer_str k x⟩
def NotIx (d : D) (n : Int) : Prop := share d = d ∧ ∀ k, run T (k + 2) i_is_index [d, .int n] = some (.bl false, [none, none])
theorem NotInt.ix {d : D} (h : NotInt d) (n : Int) : NotIx d n := ⟨h.1, fun k => by
  have e := h.2 k
  rw [r_is_index, runFn_eq rfl]
  simp [f_is_index, b_is_index, h.1, e]⟩
theorem ix_int {a n : Int} (h : ¬ (0 ≤ a ∧ a < n)) : NotIx (.int a) n := ⟨by simp, fun k => by
  rw [is_index_int]
  have : (decide (0 ≤ a) && decide (a < n)) = false := by rw [← Bool.decide_and]; exact decide_eq_false h
  rw [this]⟩
def NotInts (d : D) (n : Int) : Prop := ∀ k, run T (k + 2) i_are_integers [share d, .int n] = some (.bl false, [none, none])
theorem ints_notup (d : D) (n : Int) (h : isiD (share d) (.bi "tuple") = some false) : NotInts d n := fun k => by
  rw [r_are_integers, runFn_eq rfl]
  simp [eqD_int, f_are_integers, b_are_integers, h]
theorem ints_len (ds : List D) (n : Int) (h : (ds.length : Int) ≠ n) : NotInts (.tup ds) n := fun k => by
  rw [r_are_integers, runFn_eq rfl]
  simp [eqD_int, f_are_integers, b_are_integers, h]
theorem ints_bad (w : List Int) (d : D) (hd : NotInt d) (post : List D) (n : Int) : NotInts (.tup (eI w ++ d :: post)) n := fun k => by
  by_cases hl : (((eI w ++ d :: post).length : Nat) : Int) = n
  · have hd1 := hd.1
    have hd2 := hd.2 k
    have key : ∀ (l : List Int) (x0 x2 : Option D), ∃ ρ', forL (bindT (.name 2)) (exSs (G (k + 1)) p_are_integers_l1) (eI l ++ d :: shares post) [x0, some (.int n), x2] = some (.rt (.bl false) ρ') := by
      intro l
      induction l with
      | nil =>
        intro x0 x2
        simp [eI, forL, p_are_integers_l1, hd1, hd2]
      | cons a l ih =>
        intro x0 x2
        obtain ⟨ρ', e⟩ := ih x0 (some (.int a))
        refine ⟨ρ', ?_⟩
        have e2 : eI (a :: l) = .int a :: eI l := by simp [eI]
        rw [e2]
        have g : exSs (G (k + 1)) p_are_integers_l1 [x0, some (.int n), some (.int a)] = some (.nx [x0, some (.int n), some (.int a)]) := by
          simp [p_are_integers_l1]
        simp only [List.cons_append, forL]
        simp [g, e]
    rw [r_are_integers, runFn_eq rfl]
    obtain ⟨ρ', e⟩ := key w (some (.tup (eI w ++ d :: shares post))) none
    have el : (eI w).length = w.length := by simp [eI]
    simp [el] at hl
    simp [eqD_int, f_are_integers, b_are_integers, shares_ints, hd1, el, hl, e]
  · exact ints_len _ n hl k
def NotStand (d : D) (c m : Int) : Prop := ∀ k, run T (k + 3) i_is_stand [share d, .int c, .int m] = some (.bl false, [none, none, none])
theorem st_notup (d : D) (c m : Int) (h : isiD (share d) (.bi "tuple") = some false) : NotStand d c m := fun k => by
  rw [r_is_stand, runFn_eq rfl]
  simp [eqD_int, f_is_stand, b_is_stand, h]
theorem st_len (ds : List D) (c m : Int) (h : (ds.length : Int) ≠ 2) : NotStand (.tup ds) c m := fun k => by
  rw [r_is_stand, runFn_eq rfl]
  simp [eqD_int, f_is_stand, b_is_stand, h]
theorem st_ix (a b : D) (c m : Int) (h : NotIx a c) : NotStand (.tup [a, b]) c m := fun k => by
  have h1 := h.1
  have h2 := h.2 k
  rw [r_is_stand, runFn_eq rfl]
  simp [eqD_int, f_is_stand, b_is_stand, h1, h2]
theorem st_ints (a : Int) (b : D) (c m : Int) (ha : 0 ≤ a ∧ a < c) (h : NotInts b m) : NotStand (.tup [.int a, b]) c m := fun k => by
  have h2 := h k
  rw [r_is_stand, runFn_eq rfl]
  simp [eqD_int, f_is_stand, b_is_stand, ha, h2]
def NotMsg (d : D) (bs : List Int) : Prop := ∀ k, run T (k + 3) i_is_message [share d, .lst .shr (eI bs)] = some (.bl false, [none, none])
theorem ms_notup (d : D) (bs : List Int) (h : isiD (share d) (.bi "tuple") = some false) : NotMsg d bs := fun k => by
  rw [r_is_message, runFn_eq rfl]
  simp [eqD_int, f_is_message, b_is_message, h]
theorem ms_len (ds : List D) (bs : List Int) (h : (ds.length : Int) ≠ 2) : NotMsg (.tup ds) bs := fun k => by
  rw [r_is_message, runFn_eq rfl]
  simp [eqD_int, f_is_message, b_is_message, h]
theorem ms_ix (a b : D) (bs : List Int) (h : NotIx a bs.length) : NotMsg (.tup [a, b]) bs := fun k => by
  have h1 := h.1
  have h2 := h.2 k
  rw [r_is_message, runFn_eq rfl]
  simp [eqD_int, f_is_message, b_is_message, h1, h2]
theorem ms_ints (m : Int × List Int) (b : D) (bs : List Int) (hm : MsgOk bs m) (h : NotInts b m.2.length) : NotMsg (.tup [.int m.1, b]) bs := fun k => by
  have h2 := h k
  rw [r_is_message, runFn_eq rfl]
  simp [eqD_int, f_is_message, b_is_message, hm.lt, hm.at_, h2]
theorem bad_nolist (k : Nat) (d : D) (bs : List Int) (h : isiD (share d) (.bi "list") = some false) : run T (k + 1) i_bad_message [share d, .lst .shr (eI bs)] = some (.int (-1), [none, none]) := by
  rw [r_bad_message, runFn_eq rfl]
  simp [f_bad_message, b_bad_message, h]
theorem bad_at (k : Nat) (g : Fl) (bs : List Int) (pre : List (Int × List Int)) (hp : ∀ m ∈ pre, MsgOk bs m) (d : D) (hd : NotMsg d bs) (post : List D) : run T (k + 4) i_bad_message [.lst g (pre.map eStand ++ d :: post), .lst .shr (eI bs)] = some (.int pre.length, [none, none]) := by
  have hd1 := hd k
  have key : ∀ (l : List (Int × List Int)) (n : Nat) (x0 x2 x3 : Option D), (∀ m ∈ l, MsgOk bs m) → ∃ ρ', forL (bindT (.names [2, 3])) (exSs (G (k + 3)) p_bad_message_l1) (enumL n (l.map eStand ++ share d :: shares post)) [x0, some (.lst .shr (eI bs)), x2, x3] = some (.rt (.int ((n + l.length : Nat) : Int)) ρ') := by
    intro l
    induction l with
    | nil =>
      intro n x0 x2 x3 _
      simp [enumL, forL, p_bad_message_l1, hd1]
    | cons a l ih =>
      intro n x0 x2 x3 h
      have ha := is_message_ok k .shr bs a (h a (by simp))
      obtain ⟨ρ', e⟩ := ih (n + 1) x0 (some (.int n)) (some (eStand a)) (fun x hx => h x (by simp [hx]))
      refine ⟨ρ', ?_⟩
      have g : exSs (G (k + 3)) p_bad_message_l1 [x0, some (.lst .shr (eI bs)), some (.int n), some (eStand a)] = some (.nx [x0, some (.lst .shr (eI bs)), some (.int n), some (eStand a)]) := by
        simp [p_bad_message_l1, ha]
      have en : n + 1 + l.length = n + (l.length + 1) := by omega
      simp only [List.map_cons, List.cons_append, forL, enumL, List.length_cons]
      rw [← en]
      simp [g, e]
  rw [r_bad_message, runFn_eq rfl]
  obtain ⟨ρ', e⟩ := key pre 0 (some (.lst g.sh (pre.map eStand ++ share d :: shares post))) none none hp
  simp at e
  simp [f_bad_message, b_bad_message, shares_msgs, e]
abbrev sNoStand : PySem.Str := PySem.Str.ofString "NoStand"
abbrev sNoMessage : PySem.Str := PySem.Str.ofString "NoMessage"
abbrev sIndex : PySem.Str := PySem.Str.ofString "index"
theorem check_stand_x (k : Nat) (d : D) (c m : Int) (h : NotStand d c m) : Rs (k + 4) i_check_stand [share d, .int c, .int m] ⟨sNoStand, none⟩ [none, none, none] := by
  unfold Rs
  have h := h k
  rw [r_check_stand, x_check_stand, runFn_eq rfl, runFnX_eq rfl]
  simp [f_check_stand, b_check_stand, h]
theorem check_messages_x (k : Nat) (d : D) (bs : List Int) (i : Int) (h : run T k i_bad_message [share d, .lst .shr (eI bs)] = some (.int i, [none, none])) : Rs (k + 1) i_check_messages [share d, .lst .shr (eI bs)] ⟨sNoMessage, some (sIndex, .int i)⟩ [none, none] := by
  unfold Rs
  rw [r_check_messages, x_check_messages, runFn_eq rfl, runFnX_eq rfl]
  simp [f_check_messages, b_check_messages, h]
end K24

namespace K24
open FL
theorem slc_init (f : Fl) (xs : List D) : slcD (.lst f xs) none (some (-1)) = some (.lst .own ((shares xs).take (xs.length - 1))) := by
  have e : ∀ n : Nat, HT.sIx n n (some (-1)) = n - 1 := fun n => by
    unfold HT.sIx
    simp
    omega
  simp only [slcD, cutD, HT.sIx_none, e, List.drop_zero, Nat.sub_zero, len_shares]
theorem bad_stand_ok (k : Nat) (S : SD) (h : S.Ok) (s : Int × List Int) (hs : SStand S s) (p : Pool) : ∃ d p', run T (k + 2) i_l_bad_stand [eStand s, eP p, .int S.blocks.length] = some (d, [none, some (eP p'), none]) ∧ NotStand d S.blocks.length S.cells := by
  have hn := hs.n
  have hc1 := h.c1
  have hc3 := h.c3
  have hlo := hs.lo
  have hhi := hs.hi
  obtain ⟨c, xs⟩ := s
  simp only at hn hlo hhi
  obtain ⟨v, p1, e1, v0, v1⟩ := draw_ok k p 7 (by omega) (by omega)
  obtain ⟨t, p2, e2, t0, t1⟩ := draw_ok k p1 xs.length (by omega) (by omega)
  obtain ⟨u, p3, e3, u0, u1⟩ := draw_ok k p2 3 (by omega) (by omega)
  obtain ⟨j, rfl⟩ : ∃ j : Nat, t = j := ⟨t.toNat, by omega⟩
  have hj : j < xs.length := by omega
  have el : ∀ l, (eI l).length = l.length := fun l => by simp [eI]
  have s1 : ∀ f, slcD (.lst f (eI xs)) none (some (j : Int)) = some (.lst .own (eI (xs.take j))) := fun f => by rw [slc_to, shares_ints]; simp [eI]
  have s3 : ∀ f, slcD (.lst f (eI xs)) (some ((j : Int) + 1)) none = some (.lst .own (eI (xs.drop (j + 1)))) := fun f => by
    have := slc_from f (eI xs) (j + 1)
    rw [shares_ints] at this
    simpa [eI] using this
  have s4 : ∀ f, slcD (.lst f (eI xs)) none (some (-1)) = some (.lst .own (eI (xs.take (xs.length - 1)))) := fun f => by rw [slc_init, shares_ints]; simp [eI]
  have z1 : xs.length + 1 ≤ 16777216 := by omega
  have z2 : min j xs.length + 1 ≤ 16777216 := by omega
  have z3 : min j xs.length + 1 + (xs.length - (j + 1)) ≤ 16777216 := by omega
  rw [r_l_bad_stand, runFn_eq rfl]
  simp only [f_l_bad_stand, b_l_bad_stand]
  rcases (by omega : v = 0 ∨ v = 1 ∨ v = 2 ∨ v = 3 ∨ (v = 4 ∨ v = 5 ∨ v = 6)) with rfl | rfl | rfl | rfl | hv
  · rcases (by omega : u = 0 ∨ u = 1 ∨ u = 2) with rfl | rfl | rfl
    · simp [e1, e2, e3, eStand, eqD_int, el, shares_ints]
      exact ⟨_, ⟨rfl, p3, rfl⟩, st_notup _ _ _ (by simp)⟩
    · simp [e1, e2, e3, eStand, eqD_int, el, shares_ints]
      exact ⟨_, ⟨rfl, p3, rfl⟩, st_len _ _ _ (by simp)⟩
    · simp [e1, e2, e3, eStand, eqD_int, el, shares_ints]
      exact ⟨_, ⟨rfl, p3, rfl⟩, st_notup _ _ _ (by simp)⟩
  · rcases (by omega : u = 0 ∨ u = 1 ∨ u = 2) with rfl | rfl | rfl
    · simp [e1, e2, e3, eStand, eqD_int, el, shares_ints]
      exact ⟨_, ⟨rfl, p3, rfl⟩, st_ix _ _ _ _ (ix_int (by omega))⟩
    · simp [e1, e2, e3, eStand, eqD_int, el, shares_ints]
      exact ⟨_, ⟨rfl, p3, rfl⟩, st_ix _ _ _ _ (ix_int (by omega))⟩
    · simp [e1, e2, e3, eStand, eqD_int, el, shares_ints]
      exact ⟨_, ⟨rfl, p3, rfl⟩, st_ix _ _ _ _ ((ni_bl _).ix _)⟩
  · rcases (by omega : u = 0 ∨ u = 1 ∨ u = 2) with rfl | rfl | rfl
    · simp [e1, e2, e3, eStand, eqD_int, el, shares_ints, s4, z1]
      exact ⟨_, ⟨rfl, p3, rfl⟩, st_ints _ _ _ _ ⟨hlo, hhi⟩ (ints_notup _ _ (by simp))⟩
    · simp [e1, e2, e3, eStand, eqD_int, el, shares_ints, s4, z1]
      exact ⟨_, ⟨rfl, p3, rfl⟩, st_ints _ _ _ _ ⟨hlo, hhi⟩ (ints_len _ _ (by simp [el]; omega))⟩
    · simp [e1, e2, e3, eStand, eqD_int, el, shares_ints, s4, z1]
      exact ⟨_, ⟨rfl, p3, rfl⟩, st_ints _ _ _ _ ⟨hlo, hhi⟩ (ints_len _ _ (by simp [el]; omega))⟩
  · simp [e1, e2, e3, eStand, eqD_int, el, shares_ints]
    exact ⟨_, ⟨rfl, p3, rfl⟩, st_ix _ _ _ _ ((ni_str _).ix _)⟩
  · have hv0 : ¬ v = 0 ∧ ¬ v = 1 ∧ ¬ v = 2 ∧ ¬ v = 3 := by omega
    rcases (by omega : u = 0 ∨ u = 1 ∨ u = 2) with rfl | rfl | rfl
    · simp [e1, e2, e3, eStand, eqD_int, el, shares_ints, hv0, s1, s3, z2, z3]
      exact ⟨_, ⟨rfl, p3, rfl⟩, st_ints _ _ _ _ ⟨hlo, hhi⟩ (ints_bad _ _ (ni_bl _) _ _)⟩
    · simp [e1, e2, e3, eStand, eqD_int, el, shares_ints, hv0, s1, s3, z2, z3]
      exact ⟨_, ⟨rfl, p3, rfl⟩, st_ints _ _ _ _ ⟨hlo, hhi⟩ (ints_bad _ _ ni_non _ _)⟩
    · simp [e1, e2, e3, eStand, eqD_int, el, shares_ints, hv0, s1, s3, z2, z3]
      exact ⟨_, ⟨rfl, p3, rfl⟩, st_ints _ _ _ _ ⟨hlo, hhi⟩ (ints_bad _ _ (ni_str _) _ _)⟩
theorem bad_msg_ok (k : Nat) (S : SD) (h : S.Ok) (m : Int × List Int) (hm : MsgOk S.bs m) (p : Pool) : ∃ d p', run T (k + 2) i_l_bad_message [eStand m, eP p, .int S.bs.length] = some (d, [none, some (eP p'), none]) ∧ NotMsg d S.bs := by
  have hl2 : m.2.length ≤ 2 := by
    obtain ⟨j, _, g⟩ := hm
    have := h.b _ (List.mem_of_getElem? g)
    omega
  have hlt := hm.lt
  obtain ⟨c, xs⟩ := m
  simp only at hl2 hlt
  have mi : ∀ b, NotInts b xs.length → NotMsg (.tup [.int c, b]) S.bs := fun b hb => ms_ints (c, xs) b S.bs hm hb
  obtain ⟨v, p1, e1, v0, v1⟩ := draw_ok k p 6 (by omega) (by omega)
  obtain ⟨u, p3, e3, u0, u1⟩ := draw_ok k p1 3 (by omega) (by omega)
  have el : ∀ l, (eI l).length = l.length := fun l => by simp [eI]
  have z1 : xs.length + 1 ≤ 16777216 := by omega
  rw [r_l_bad_message, runFn_eq rfl]
  simp only [f_l_bad_message, b_l_bad_message]
  by_cases a0 : v = 0
  · subst a0
    rcases (by omega : u = 0 ∨ u = 1 ∨ u = 2) with rfl | rfl | rfl
    · simp [e1, e3, eStand, eqD_int, el, shares_ints]
      exact ⟨_, ⟨rfl, p3, rfl⟩, ms_notup _ _ (by simp)⟩
    · simp [e1, e3, eStand, eqD_int, el, shares_ints]
      exact ⟨_, ⟨rfl, p3, rfl⟩, ms_len _ _ (by simp)⟩
    · simp [e1, e3, eStand, eqD_int, el, shares_ints]
      exact ⟨_, ⟨rfl, p3, rfl⟩, ms_notup _ _ (by simp)⟩
  by_cases a1 : v = 1
  · subst a1
    rcases (by omega : u = 0 ∨ u = 1 ∨ u = 2) with rfl | rfl | rfl
    · simp [e1, e3, eStand, eqD_int, el, shares_ints]
      exact ⟨_, ⟨rfl, p3, rfl⟩, ms_ix _ _ _ (ix_int (by omega))⟩
    · simp [e1, e3, eStand, eqD_int, el, shares_ints]
      exact ⟨_, ⟨rfl, p3, rfl⟩, ms_ix _ _ _ (ix_int (by omega))⟩
    · simp [e1, e3, eStand, eqD_int, el, shares_ints]
      exact ⟨_, ⟨rfl, p3, rfl⟩, ms_ix _ _ _ ((ni_bl _).ix _)⟩
  by_cases a2 : v = 2 ∨ xs.length = 0
  · have b2 : (v = 2) ∨ ((xs.length : Int) = 0) := by omega
    by_cases b3 : v = 2
    · rcases (by omega : u = 0 ∨ u = 1 ∨ u = 2) with rfl | rfl | rfl
      · simp [e1, e3, eStand, eqD_int, el, shares_ints, a0, a1, b3, z1]
        exact ⟨_, ⟨rfl, p3, rfl⟩, mi _ (ints_notup _ _ (by simp))⟩
      · simp [e1, e3, eStand, eqD_int, el, shares_ints, a0, a1, b3, z1]
        exact ⟨_, ⟨rfl, p3, rfl⟩, mi _ (ints_len _ _ (by simp [el]; omega))⟩
      · simp [e1, e3, eStand, eqD_int, el, shares_ints, a0, a1, b3, z1]
        exact ⟨_, ⟨rfl, p3, rfl⟩, mi _ (ints_len _ _ (by simp [el]; omega))⟩
    · obtain rfl : xs = [] := List.length_eq_zero_iff.mp (by omega)
      rcases (by omega : u = 0 ∨ u = 1 ∨ u = 2) with rfl | rfl | rfl
      · simp [e1, e3, eStand, eqD_int, eI, a0, a1, b3]
        exact ⟨_, ⟨rfl, p3, rfl⟩, mi _ (ints_notup _ _ (by simp))⟩
      · simp [e1, e3, eStand, eqD_int, eI, a0, a1, b3]
        exact ⟨_, ⟨rfl, p3, rfl⟩, mi _ (ints_len _ _ (by simp))⟩
      · simp [e1, e3, eStand, eqD_int, eI, a0, a1, b3]
        exact ⟨_, ⟨rfl, p3, rfl⟩, mi _ (ints_len _ _ (by simp))⟩
  have a3 : ¬ v = 2 := fun e => a2 (.inl e)
  have a4 : ¬ xs.length = 0 := fun e => a2 (.inr e)
  have a5 : ¬ (xs = []) := fun e => a4 (by rw [e]; rfl)
  obtain ⟨t, p4, e4, t0, t1⟩ := draw_ok k p3 xs.length (by omega) (by omega)
  obtain ⟨j, rfl⟩ : ∃ j : Nat, t = j := ⟨t.toNat, by omega⟩
  have hj : j < xs.length := by omega
  have s1 : ∀ f, slcD (.lst f (eI xs)) none (some (j : Int)) = some (.lst .own (eI (xs.take j))) := fun f => by rw [slc_to, shares_ints]; simp [eI]
  have s3 : ∀ f, slcD (.lst f (eI xs)) (some ((j : Int) + 1)) none = some (.lst .own (eI (xs.drop (j + 1)))) := fun f => by
    have := slc_from f (eI xs) (j + 1)
    rw [shares_ints] at this
    simpa [eI] using this
  have z2 : min j xs.length + 1 ≤ 16777216 := by omega
  have z3 : min j xs.length + 1 + (xs.length - (j + 1)) ≤ 16777216 := by omega
  have z4 : min j xs.length + (xs.length - (j + 1)) ≤ 16777216 := by omega
  by_cases a6 : v = 3
  · simp [e1, e3, eStand, eqD_int, el, shares_ints, a6, a5, e4, s1, s3, z4]
    exact ⟨_, ⟨rfl, p4, rfl⟩, mi _ (ints_len _ _ (by simp [el]; omega))⟩
  rcases (by omega : u = 0 ∨ u = 1 ∨ u = 2) with rfl | rfl | rfl
  · simp [e1, e3, eStand, eqD_int, el, shares_ints, a0, a1, a3, a6, a5, e4, s1, s3, z2, z3]
    exact ⟨_, ⟨rfl, p4, rfl⟩, mi _ (ints_bad _ _ (ni_bl _) _ _)⟩
  · simp [e1, e3, eStand, eqD_int, el, shares_ints, a0, a1, a3, a6, a5, e4, s1, s3, z2, z3]
    exact ⟨_, ⟨rfl, p4, rfl⟩, mi _ (ints_bad _ _ ni_non _ _)⟩
  · simp [e1, e3, eStand, eqD_int, el, shares_ints, a0, a1, a3, a6, a5, e4, s1, s3, z2, z3]
    exact ⟨_, ⟨rfl, p4, rfl⟩, mi _ (ints_bad _ _ (ni_str _) _ _)⟩
end K24

namespace K24
open FL
/-! A3: what the program's checks of statements and blocks say of any data; what makes no script. -/
def okS (w : PySem.Str) : Prop := (PySem.PyData.str w).canLay0 = true
/-- what may stand where a statement should -/
inductive Sm : D → Prop
  | nil : Sm (.tup [])
  | non : Sm .non
  | lst (ds : List D) (h : shares ds = ds) : Sm (.lst .shr ds)
  | two (w : PySem.Str) (a : D) (hw : okS w) (ha : flatD a = true) : Sm (.tup [.str w, a])
  | three (w : PySem.Str) (a v : D) (hw : okS w) (ha : flatD a = true) (hv : (w = sSwap → flatD v = true) ∧ (w ≠ sSwap → Rw v ∨ flatD v = true)) (h1 : w = sSet ∨ w = sAdd → Rw v) (hs : share v = v) : Sm (.tup [.str w, a, v])
theorem Sm.share {s : D} (h : Sm s) : share s = s := by
  cases h with
  | nil => simp
  | non => simp
  | lst ds h => simp [h]
  | two w a hw ha => simp [flat_share ha]
  | three w a v hw ha hv h1 hs => simp [flat_share ha, hs]
theorem Sm.shares {ds : List D} (h : ∀ d ∈ ds, Sm d) : shares ds = ds := shares_id fun e he => (h e he).share
def stmS (N C b : Int) : D → Bool
  | .tup [.str w, a] => decide (w = sGo) && ixI N a
  | .tup [.str w, a, v] => if w = sGo then false else ixI C a && (if w = sSwap then ixI C v else (decide (sSet = w) || decide (sAdd = w)) && rowS (1 + C + b) v)
  | _ => false
theorem is_statement_dec (k : Nat) (s : D) (h : Sm s) (N C b : Int) : run T (k + 4) i_is_statement [s, .int N, .int C, .int b] = some (.bl (stmS N C b s), [none, none, none, none]) := by
  have at0 : ∀ (d : D) (t : List D), L2.atI (d :: t) 0 = some d := fun d t => atI_0 d t
  rw [r_is_statement, runFn_eq rfl]
  cases h with
  | nil => simp [f_is_statement, b_is_statement, eqD_int, stmS]
  | non => simp [f_is_statement, b_is_statement, stmS]
  | lst ds h => simp [f_is_statement, b_is_statement, stmS]
  | two w a hw ha =>
    have q := eqD_str w sGo hw ok_go
    have ix := is_index_flat (k + 1) a ha N
    have sa := flat_share ha
    have at1 : L2.atI [D.str w, a] 1 = some a := atI_1 _ a []
    by_cases hg : w = sGo
    · rw [decide_eq_true hg] at q
      have es : stmS N C b (.tup [.str w, a]) = ixI N a := by simp only [stmS, decide_eq_true hg, Bool.true_and]
      rw [es]
      simp [f_is_statement, b_is_statement, eqD_int, at0, at1, sa, q, ix]
    · rw [decide_eq_false hg] at q
      have es : stmS N C b (.tup [.str w, a]) = false := by simp only [stmS, decide_eq_false hg, Bool.false_and]
      rw [es]
      simp [f_is_statement, b_is_statement, eqD_int, at0, at1, sa, q]
  | three w a v hw ha hv h1 hs =>
    have q := eqD_str w sGo hw ok_go
    have q2 := eqD_str w sSwap hw ok_swap
    have q3 := eqD_str sSet w ok_set hw
    have q4 := eqD_str sAdd w ok_add hw
    have ix := is_index_flat (k + 1) a ha C
    have sa := flat_share ha
    have at1 : L2.atI [D.str w, a, v] 1 = some a := atI_1 _ a [v]
    have at2 : L2.atI [D.str w, a, v] 2 = some v := atI_2 _ a v []
    by_cases hg : w = sGo
    · rw [decide_eq_true hg] at q
      have es : stmS N C b (.tup [.str w, a, v]) = false := by simp only [stmS, if_pos hg]
      rw [es]
      simp [f_is_statement, b_is_statement, eqD_int, at0, at1, sa, hs, q]
    · rw [decide_eq_false hg] at q
      cases hi : ixI C a with
      | false =>
        rw [hi] at ix
        have es : stmS N C b (.tup [.str w, a, v]) = false := by simp only [stmS, if_neg hg, hi, Bool.false_and]
        rw [es]
        simp [f_is_statement, b_is_statement, eqD_int, at0, at1, sa, hs, q, ix]
      | true =>
        rw [hi] at ix
        by_cases hsw : w = sSwap
        · have ix2 := is_index_flat (k + 1) v (hv.1 hsw) C
          rw [decide_eq_true hsw] at q2
          have es : stmS N C b (.tup [.str w, a, v]) = ixI C v := by simp only [stmS, if_neg hg, if_pos hsw, hi, Bool.true_and]
          rw [es]
          simp [f_is_statement, b_is_statement, eqD_int, at0, at1, at2, sa, hs, q, q2, ix, ix2]
        · rw [decide_eq_false hsw] at q2
          have mm : cmpD .mem (.str w) (.tup [.str sSet, .str sAdd]) = some (decide (sSet = w) || decide (sAdd = w)) := by
            have e : cmpD .mem (.str w) (.tup [.str sSet, .str sAdd]) = memD (.str w) [.str sSet, .str sAdd] := rfl
            rw [e]
            unfold memD
            rw [q3]
            unfold memD
            rw [q4]
            by_cases c1 : sSet = w <;> by_cases c2 : sAdd = w <;> simp only [decide_eq_true_eq, c1, c2, Option.bind_some, memD] <;> simp [c1, c2]
          by_cases hm : sSet = w ∨ sAdd = w
          · have rv := h1 (hm.elim (fun e => .inl e.symm) (fun e => .inr e.symm))
            have ir := is_row_dec k v rv (1 + C + b)
            have hm' : (decide (sSet = w) || decide (sAdd = w)) = true := by simpa using hm
            rw [hm'] at mm
            simp only [stmS, if_neg hg, if_neg hsw, hi, hm', Bool.true_and]
            simp [f_is_statement, b_is_statement, eqD_int, at0, at1, at2, sa, hs, q, q2, ix, mm, ir]
          · have hm' : (decide (sSet = w) || decide (sAdd = w)) = false := by simpa using hm
            rw [hm'] at mm
            simp only [stmS, if_neg hg, if_neg hsw, hi, hm', Bool.true_and, Bool.false_and]
            simp [f_is_statement, b_is_statement, eqD_int, at0, at1, at2, sa, hs, q, q2, ix, mm]
/-- what may stand where a block should -/
def Bk (v : D) : Prop := (∃ ds : List D, (v = .lst .shr ds ∨ v = .tup ds) ∧ ∀ d ∈ ds, Sm d) ∨ v = .non
theorem Bk.share {v : D} (h : Bk v) : share v = v := by
  rcases h with ⟨ds, rfl | rfl, h⟩ | rfl
  · simp [Sm.shares h]
  · simp [Sm.shares h]
  · simp
theorem Bk.shares {ds : List D} (h : ∀ d ∈ ds, Bk d) : shares ds = ds := shares_id fun e he => (h e he).share
def blkS (N C b : Int) : D → Bool
  | .lst _ ds => decide ((ds.length : Int) ≤ 6) && ds.all (stmS N C b)
  | _ => false
theorem is_block_dec (k : Nat) (v : D) (h : Bk v) (N C b : Int) : run T (k + 5) i_is_block [v, .int N, .int C, .int b] = some (.bl (blkS N C b v), [none, none, none, none]) := by
  rw [r_is_block, runFn_eq rfl]
  rcases h with ⟨ds, rfl | rfl, hf⟩ | rfl
  · have sh := Sm.shares hf
    by_cases hl : (ds.length : Int) ≤ 6
    · have hl' : ¬ ((6 : Int) < ds.length) := by omega
      have key := forL_all (bind := bindT (.name 4)) (body := exSs (G (k + 4)) p_is_block_l1) id (fun s : Option D => [some (.lst .shr ds), some (.int N), some (.int C), some (.int b), s]) (stmS N C b) (.bl false) ds (fun d hd s => by
        have ie := is_statement_dec k d (hf d hd) N C b
        have se := (hf d hd).share
        cases hi : stmS N C b d with
        | true => exact .inl ⟨rfl, some d, by rw [hi] at ie; simp [p_is_block_l1, se, ie]⟩
        | false => exact .inr ⟨rfl, _, by rw [hi] at ie; simp [p_is_block_l1, se, ie]; rfl⟩) none
      rw [List.map_id] at key
      have en : blkS N C b (.lst .shr ds) = ds.all (stmS N C b) := by simp only [blkS, decide_eq_true hl, Bool.true_and]
      rw [en]
      rcases key with ⟨ha, s, e⟩ | ⟨ha, ρ, e⟩ <;> rw [ha] <;> simp [f_is_block, b_is_block, sh, hl, hl', e]
    · have hl' : (6 : Int) < ds.length := by omega
      have en : blkS N C b (.lst .shr ds) = false := by simp only [blkS, decide_eq_false hl, Bool.false_and]
      rw [en]
      simp [f_is_block, b_is_block, sh, hl, hl']
  · simp [f_is_block, b_is_block, blkS]
  · simp [f_is_block, b_is_block, blkS]
def Lk (l : D) : Prop := ∃ ds : List D, (l = .lst .shr ds ∨ l = .tup ds) ∧ ∀ d ∈ ds, Bk d
theorem Lk.share {v : D} (h : Lk v) : share v = v := by
  rcases h with ⟨ds, rfl | rfl, h⟩
  · simp [Bk.shares h]
  · simp [Bk.shares h]
theorem Lk.shares {ds : List D} (h : ∀ d ∈ ds, Lk d) : shares ds = ds := shares_id fun e he => (h e he).share
def VB (v : D) : Prop := ∃ ds : List D, (v = .lst .shr ds ∨ v = .tup ds) ∧ ∀ d ∈ ds, Lk d
theorem VB.share {v : D} (h : VB v) : share v = v := by
  rcases h with ⟨ds, rfl | rfl, h⟩
  · simp [Lk.shares h]
  · simp [Lk.shares h]
def enumA (k : Nat) : List D → List (Nat × D)
  | [] => []
  | x :: xs => (k, x) :: enumA (k + 1) xs
theorem enumL_A : ∀ (k : Nat) (xs : List D), enumL k xs = (enumA k xs).map fun p => .tup [.int (p.1 : Int), p.2]
  | _, [] => rfl
  | k, x :: xs => by simp only [enumL, enumA, List.map_cons, enumL_A (k + 1) xs]
theorem enumA_mem : ∀ {k : Nat} {xs : List D} {p : Nat × D}, p ∈ enumA k xs → p.2 ∈ xs ∧ k ≤ p.1 ∧ xs[p.1 - k]? = some p.2
  | k, x :: xs, p, h => by
    simp only [enumA, List.mem_cons] at h
    rcases h with rfl | h
    · simp
    · obtain ⟨a, b, c⟩ := enumA_mem h
      refine ⟨by simp [a], by omega, ?_⟩
      rw [show p.1 - k = (p.1 - (k + 1)) + 1 by omega]
      simpa using c
theorem enumA_get : ∀ {k : Nat} {xs : List D} {j : Nat} {x : D}, xs[j]? = some x → (k + j, x) ∈ enumA k xs
  | k, y :: xs, 0, x, h => by simp at h; subst h; simp [enumA]
  | k, y :: xs, j + 1, x, h => by
    have := enumA_get (k := k + 1) (xs := xs) (j := j) (by simpa using h)
    simp only [enumA, List.mem_cons]
    right
    rw [show k + (j + 1) = k + 1 + j by omega]
    exact this
def lnS (N C : Int) (bs : List Int) : D → Bool
  | .lst _ rs => decide ((rs.length : Int) = bs.length) && (enumA 0 rs).all fun p => blkS N C (bs.getD p.1 0) p.2
  | _ => false
def blocksS (C : Int) (bs : List Int) : D → Bool
  | .lst _ ls => decide (1 ≤ (ls.length : Int)) && (decide ((ls.length : Int) ≤ 3) && ls.all (lnS ls.length C bs))
  | _ => false
theorem line_dec (k : Nat) (bs : List Int) (ls rs : List D) (hv : shares ls = ls) (hr : ∀ r ∈ rs, Bk r) (hl : rs.length = bs.length) (C : Int) (x : D) (s : Option D × Option D) :
    ((enumA 0 rs).all (fun p => blkS ls.length C (bs.getD p.1 0) p.2) = true ∧ ∃ s' : Option D × Option D, forL (bindT (.names [4, 5])) (exSs (G (k + 5)) p_are_blocks_l2) (enumL 0 rs) [some (.lst .shr ls), some (.int C), some (.lst .shr (eI bs)), some x, s.1, s.2] = some (.nx [some (.lst .shr ls), some (.int C), some (.lst .shr (eI bs)), some x, s'.1, s'.2])) ∨
    ((enumA 0 rs).all (fun p => blkS ls.length C (bs.getD p.1 0) p.2) = false ∧ ∃ ρ, forL (bindT (.names [4, 5])) (exSs (G (k + 5)) p_are_blocks_l2) (enumL 0 rs) [some (.lst .shr ls), some (.int C), some (.lst .shr (eI bs)), some x, s.1, s.2] = some (.rt (.bl false) ρ)) := by
  rw [enumL_A]
  refine forL_all (fun p : Nat × D => .tup [.int (p.1 : Int), p.2]) (fun s : Option D × Option D => [some (.lst .shr ls), some (.int C), some (.lst .shr (eI bs)), some x, s.1, s.2]) (fun p => blkS ls.length C (bs.getD p.1 0) p.2) (.bl false) (enumA 0 rs) (fun p hp s => ?_) s
  obtain ⟨j, r⟩ := p
  obtain ⟨h1, _, h2⟩ := enumA_mem hp
  simp only [Nat.sub_zero] at h1 h2 ⊢
  have hj : j < bs.length := by rw [← hl]; exact (List.getElem?_eq_some_iff.mp h2).1
  have ab : L2.atI (eI bs) (j : Int) = some (.int (bs.getD j 0)) := by
    rw [atI_nat, eI_get, List.getElem?_eq_getElem hj, List.getD_eq_getElem?_getD, List.getElem?_eq_getElem hj]; rfl
  generalize bs.getD j 0 = b at *
  have sr := (hr r h1).share
  have ib := is_block_dec k r (hr r h1) ls.length C b
  cases hi : blkS ls.length C b r with
  | false =>
    rw [hi] at ib
    exact .inr ⟨rfl, _, by simp [p_are_blocks_l2, putAll, sr, hv, shares_ints, ab, ib]; rfl⟩
  | true =>
    rw [hi] at ib
    exact .inl ⟨rfl, (some (.int j), some r), by simp [p_are_blocks_l2, putAll, sr, hv, shares_ints, ab, ib]⟩
theorem are_blocks_dec (k : Nat) (v : D) (h : VB v) (C : Int) (bs : List Int) : run T (k + 6) i_are_blocks [v, .int C, .lst .shr (eI bs)] = some (.bl (blocksS C bs v), [none, none, none]) := by
  rw [r_are_blocks, runFn_eq rfl]
  rcases h with ⟨ls, rfl | rfl, hl⟩
  · have sh := Lk.shares hl
    unfold blocksS
    by_cases c1 : 1 ≤ (ls.length : Int)
    · by_cases c3 : (ls.length : Int) ≤ 3
      · have key := forL_all (bind := bindT (.name 3)) (body := exSs (G (k + 5)) p_are_blocks_l1) id (fun s : Option D × Option D × Option D => [some (.lst .shr ls), some (.int C), some (.lst .shr (eI bs)), s.1, s.2.1, s.2.2]) (lnS ls.length C bs) (.bl false) ls (fun l hlm s => by
          obtain ⟨y3, y4, y5⟩ := s
          rcases hl l hlm with ⟨rs, rfl | rfl, hr⟩
          · have sh2 := Bk.shares hr
            by_cases hn : rs.length = bs.length
            · have hn' : (rs.length : Int) = bs.length := by omega
              rcases line_dec k bs ls rs sh hr hn C (.lst .shr rs) (y4, y5) with ⟨q, ⟨y4', y5'⟩, e⟩ | ⟨q, ρ, e⟩
              · exact .inl ⟨by rw [lnS, q, Bool.and_true]; simp [hn], (some (.lst .shr rs), y4', y5'), by simp [p_are_blocks_l1, sh2, shares_ints, eI_len, hn', eqD_int, e]⟩
              · exact .inr ⟨by rw [lnS, q, Bool.and_false], ρ, by simp [p_are_blocks_l1, sh2, shares_ints, eI_len, hn', eqD_int, e]⟩
            · have hn' : ¬ ((rs.length : Int) = bs.length) := by omega
              exact .inr ⟨by rw [lnS, decide_eq_false hn', Bool.false_and], _, by simp [p_are_blocks_l1, sh2, shares_ints, eI_len, hn', eqD_int]; rfl⟩
          · exact .inr ⟨rfl, _, by simp [p_are_blocks_l1, Bk.shares hr]; rfl⟩) (none, none, none)
        rw [List.map_id] at key
        rcases key with ⟨ha, s, e⟩ | ⟨ha, ρ, e⟩ <;> simp only [ha] <;> simp [f_are_blocks, b_are_blocks, sh, shares_ints, c1, c3, e]
      · simp [f_are_blocks, b_are_blocks, sh, shares_ints, c1, c3]
    · simp [f_are_blocks, b_are_blocks, sh, shares_ints, c1]
  · simp [f_are_blocks, b_are_blocks, blocksS]
end K24

namespace K24
open FL
/-! A4: spoiled statements and shows. -/
theorem cut_ok (xs : List Int) (a : Nat) : slcD (.lst .shr (eI xs)) none (some (a : Int)) = some (.lst .own (eI (xs.take a))) ∧ slcD (.lst .shr (eI xs)) (some ((a : Int) + 1)) none = some (.lst .own (eI (xs.drop (a + 1)))) := by
  have h1 := slc_to .shr (eI xs) a
  have h2 := slc_from .shr (eI xs) (a + 1)
  rw [shares_ints] at h1 h2
  refine ⟨by rw [h1]; simp [eI], ?_⟩
  have : ((a + 1 : Nat) : Int) = (a : Int) + 1 := by omega
  rw [← this, h2]; simp [eI]
theorem rw_cut (xs : List Int) (e : D) (he : flatD e = true) (ys : List Int) : ∀ d ∈ eI xs ++ e :: eI ys, flatD d = true := fun d hd => by
  rcases List.mem_append.mp hd with hd | hd
  · obtain ⟨z, _, rfl⟩ := mem_eI hd; rfl
  · rcases List.mem_cons.mp hd with rfl | hd
    · exact he
    · obtain ⟨z, _, rfl⟩ := mem_eI hd; rfl
theorem rowS_bad {f : Fl} {es : List D} {d : D} (hd : d ∈ es) (h : ∀ x, d = .int x → ¬ (-9 ≤ x ∧ x ≤ 9)) (n : Int) : rowS n (.lst f es) = false := by
  cases q : rowS n (.lst f es) with
  | false => rfl
  | true =>
    exfalso
    simp only [rowS, rowN, Bool.and_eq_true] at q
    obtain ⟨⟨_, q1⟩, q2⟩ := q
    obtain ⟨xs, rfl⟩ := all_ints q1
    obtain ⟨z, hz, rfl⟩ := mem_eI hd
    have e : rowOf (.lst f (eI xs)) = xs := rowOf_row f xs
    rw [e, List.all_eq_true] at q2
    have := q2 z hz
    simp at this
    exact h z rfl this
theorem pick3 {a b c : D} {u : Int} (h0 : 0 ≤ u) (h3 : u < 3) : ∃ e, L2.atI [a, b, c] u = some e ∧ (e = a ∨ e = b ∨ e = c) := by
  rcases (by omega : u = 0 ∨ u = 1 ∨ u = 2) with rfl | rfl | rfl
  · exact ⟨a, atI_0 _ _, .inl rfl⟩
  · exact ⟨b, atI_1 _ _ _, .inr (.inl rfl)⟩
  · exact ⟨c, atI_2 _ _ _ _, .inr (.inr rfl)⟩
abbrev sCap : PySem.Str := PySem.Str.ofString "Set"
theorem ok_cap : okS sCap := by unfold okS; decide +kernel
theorem cap_go : ¬ sCap = sGo := by decide +kernel
theorem cap_sw : ¬ sCap = sSwap := by decide +kernel
theorem cap_st : ¬ sSet = sCap := by decide +kernel
theorem cap_ad : ¬ sAdd = sCap := by decide +kernel
theorem word_is (v : Int) (h0 : 0 ≤ v) (h2 : v < 2) : ∃ w, L2.atI [D.str sSet, .str sAdd] v = some (.str w) ∧ (w = sSet ∨ w = sAdd) ∧ okS w ∧ ¬ w = sGo ∧ ¬ w = sSwap ∧ (decide (sSet = w) || decide (sAdd = w)) = true := by
  rcases (by omega : v = 0 ∨ v = 1) with rfl | rfl
  · exact ⟨sSet, atI_0 _ _, .inl rfl, ok_set, by rw [ne_tg]; simp, by rw [ne_ts]; simp, by simp⟩
  · exact ⟨sAdd, atI_1 _ _ _, .inr rfl, ok_add, by rw [ne_ag]; simp, by rw [ne_as]; simp, by simp⟩
theorem bad_statement_ok (k : Nat) (p : Pool) (N C : Nat) (b : Int) (hC : 1 ≤ C) (hC3 : C ≤ 3) (hb : 0 ≤ b ∧ b < 3) : ∃ d p', run T (k + 2) i_l_bad_statement [.int N, .int C, .int b, eP p] = some (d, [none, none, none, some (eP p')]) ∧ Sm (share d) ∧ stmS N C b (share d) = false := by
  obtain ⟨w0, hw0⟩ : ∃ w0 : Nat, (w0 : Int) = 1 + C + b := ⟨(1 + C + b).toNat, by omega⟩
  obtain ⟨v1, p1, e1, g1, l1⟩ := draw_ok k p 7 (by omega) (by omega)
  obtain ⟨v2, p2, e2, g2, l2⟩ := draw_ok k p1 3 (by omega) (by omega)
  obtain ⟨v3, p3, e3, g3, l3⟩ := draw_ok k p2 w0 (by omega) (by omega)
  obtain ⟨v4, p4, e4, g4, l4⟩ := draw_ok k p3 2 (by omega) (by omega)
  obtain ⟨a, rfl⟩ : ∃ m : Nat, v3 = m := ⟨v3.toNat, by omega⟩
  obtain ⟨w, ew, wc, okw, wg, wsw, wm⟩ := word_is v4 g4 l4
  have mu := mulL_ok .own [D.int 0] w0 (by simp) (by simp; omega) (by omega)
  obtain ⟨zs, hzs⟩ : ∃ z : List Int, z = List.replicate w0 0 := ⟨_, rfl⟩
  have muw : binD .mul (.lst .own [D.int 0]) (.int (1 + (C : Int) + b)) = some (.lst .own (eI zs)) := by
    rw [← hw0, mu, hzs]
    congr 2
    have : shares [D.int 0] = [D.int 0] := by simp
    rw [this]
    clear mu hzs l3 e3 hw0
    induction w0 with
    | zero => rfl
    | succ n ih => rw [List.replicate_succ, List.flatten_cons, ih, List.replicate_succ]; rfl
  have lz : zs.length = w0 := by rw [hzs]; simp
  have zl : (zs.length : Int) = 1 + C + b := by omega
  have e3' : run T (k + 1) i_l_draw [eP p2, .int (1 + (C : Int) + b)] = some (.int (a : Int), [some (eP p3), none]) := by rw [← hw0]; exact e3
  obtain ⟨c1, c2⟩ := cut_ok zs a
  have z1 : zs.length ≤ 16777215 := by omega
  have ixC : ixI (C : Int) (.int 0) = true := by simp [ixI]; omega
  have rz : Rw (.lst .shr (eI zs)) := Rw.ints zs
  have sz : share (.lst .shr (eI zs)) = .lst .shr (eI zs) := by simp [shares_ints]
  have three : ∀ a v, flatD a = true → Rw v → Sm (.tup [.str w, a, v]) := fun a v ha hv => .three w a v okw ha ⟨fun h => absurd h wsw, fun _ => .inl hv⟩ (fun _ => hv) hv.share
  have st3 : ∀ a v, stmS N C b (.tup [.str w, a, v]) = (ixI C a && rowS (1 + C + b) v) := fun a v => by
    simp only [stmS, if_neg wg, if_neg wsw, wm, Bool.true_and]
  have ex : ∀ d p', run T (k + 2) i_l_bad_statement [.int N, .int C, .int b, eP p] = some (d, [none, none, none, some (eP p')]) → share d = d → Sm d → stmS N C b d = false → ∃ d p', run T (k + 2) i_l_bad_statement [.int N, .int C, .int b, eP p] = some (d, [none, none, none, some (eP p')]) ∧ Sm (share d) ∧ stmS N C b (share d) = false := fun d p' h1 h2 h3 h4 => ⟨d, p', h1, by rw [h2]; exact h3, by rw [h2]; exact h4⟩
  rw [r_l_bad_statement, runFn_eq rfl] at ex ⊢
  have ni : ¬ (C : Int) < C := by omega
  have nn : ¬ (N : Int) < N := by omega
  rcases (by omega : v1 = 0 ∨ v1 = 1 ∨ v1 = 2 ∨ v1 = 3 ∨ v1 = 4 ∨ v1 = 5 ∨ (v1 ≠ 0 ∧ v1 ≠ 1 ∧ v1 ≠ 2 ∧ v1 ≠ 3 ∧ v1 ≠ 4 ∧ v1 ≠ 5)) with rfl | rfl | rfl | rfl | rfl | rfl | ⟨n0, n1, n2, n3, n4, n5⟩
  · obtain ⟨e, ee, he⟩ := pick3 (a := .int (N : Int)) (b := .bl true) (c := .int (-1)) g2 l2
    have fe : flatD e = true := by rcases he with rfl | rfl | rfl <;> rfl
    have xe : ixI N e = false := by rcases he with rfl | rfl | rfl <;> simp [ixI]
    have se := flat_share fe
    refine ex (.tup [.str sGo, e]) p4 (by simp [f_l_bad_statement, b_l_bad_statement, eqD_int, e1, e2, e3', e4, ew, muw, shares_ints, ee, se]) (by simp [se]) (.two _ _ ok_go fe) (by simp [stmS, xe])
  · obtain ⟨e, ee, he⟩ := pick3 (a := .int (C : Int)) (b := .bl false) (c := .non) g2 l2
    have fe : flatD e = true := by rcases he with rfl | rfl | rfl <;> rfl
    have xe : ixI C e = false := by rcases he with rfl | rfl | rfl <;> simp [ixI]
    have se := flat_share fe
    refine ex (.tup [.str sSwap, .int 0, e]) p4 (by simp [f_l_bad_statement, b_l_bad_statement, eqD_int, e1, e2, e3', e4, ew, muw, shares_ints, ee, se]) (by simp [se]) (.three _ _ _ ok_swap rfl ⟨fun _ => fe, fun h => absurd rfl h⟩ (fun h => by rcases h with h | h; exact absurd h (by rw [ne_st]; simp); exact absurd h (by rw [ne_sa]; simp)) se) (by simp [stmS, xe, ne_sg])
  · obtain ⟨e, ee, he⟩ := pick3 (a := .int (C : Int)) (b := .int (-1)) (c := .bl true) g2 l2
    have fe : flatD e = true := by rcases he with rfl | rfl | rfl <;> rfl
    have xe : ixI C e = false := by rcases he with rfl | rfl | rfl <;> simp [ixI]
    have se := flat_share fe
    refine ex (.tup [.str w, e, .lst .shr (eI zs)]) p4 (by simp [f_l_bad_statement, b_l_bad_statement, eqD_int, e1, e2, e3', e4, ew, muw, shares_ints, ee, se]) (by simp [se, shares_ints]) (three _ _ fe rz) (by rw [st3, xe, Bool.false_and])
  · obtain ⟨ys, l, exy⟩ : ∃ (y : List Int) (l : Int), zs = y ++ [l] := ⟨zs.dropLast, zs.getLast (by intro h; rw [h] at lz; simp at lz; omega), (List.dropLast_concat_getLast _).symm⟩
    have exy' : eI zs = eI ys ++ [.int l] := by rw [exy]; simp [eI]
    have ly : ys.length + 1 = zs.length := by rw [exy]; simp
    have slm : slcD (.lst .shr (eI zs)) none (some (-1)) = some (.lst .own (eI ys)) := by
      rw [slc_init, shares_ints, exy']; simp [eI]
    rcases (by omega : v2 = 0 ∨ v2 = 1 ∨ v2 = 2) with rfl | rfl | rfl
    · refine ex (.tup [.str w, .int 0, .lst .shr (eI (zs ++ [0]))]) p4 (by simp [f_l_bad_statement, b_l_bad_statement, eqD_int, e1, e2, e3', e4, ew, muw, shares_ints, slm, eI_len, z1]; simp [eI]) (by simp [shares_ints]) (three _ _ rfl (Rw.ints _)) ?_
      have : ¬ (((zs ++ [0]).length : Int) = 1 + C + b) := by simp; omega
      rw [st3, show D.lst Fl.shr (eI (zs ++ [0])) = eRow .shr (zs ++ [0]) from rfl, rowS_row, decide_eq_false this]; simp
    · refine ex (.tup [.str w, .int 0, .lst .shr (eI ys)]) p4 (by simp [f_l_bad_statement, b_l_bad_statement, eqD_int, e1, e2, e3', e4, ew, muw, shares_ints, slm, eI_len, z1]) (by simp [shares_ints]) (three _ _ rfl (Rw.ints _)) ?_
      have : ¬ ((ys.length : Int) = 1 + C + b) := by omega
      rw [st3, show D.lst Fl.shr (eI ys) = eRow .shr ys from rfl, rowS_row, decide_eq_false this]; simp
    · refine ex (.tup [.str w, .int 0, .tup (eI zs)]) p4 (by simp [f_l_bad_statement, b_l_bad_statement, eqD_int, e1, e2, e3', e4, ew, muw, shares_ints, slm, eI_len, z1]) (by simp [shares_ints]) (three _ _ rfl (.inl ⟨eI zs, .inr rfl, fun e he => by obtain ⟨z, _, rfl⟩ := mem_eI he; rfl⟩)) ?_
      rw [st3]; simp [rowS, rowN]
  · rcases (by omega : v2 = 0 ∨ v2 = 1 ∨ v2 = 2) with rfl | rfl | rfl
    · refine ex (.tup [.str sCap, .int 0, .lst .shr (eI zs)]) p4 (by simp [f_l_bad_statement, b_l_bad_statement, eqD_int, e1, e2, e3', e4, ew, muw, shares_ints]) (by simp [shares_ints]) (.three _ _ _ ok_cap rfl ⟨fun h => absurd h cap_sw, fun _ => .inl rz⟩ (fun _ => rz) sz) ?_
      simp only [stmS, if_neg cap_go, if_neg cap_sw, decide_eq_false cap_st, decide_eq_false cap_ad]; simp
    · refine ex (.tup [.str sGo, .int 0, .int 0]) p4 (by simp [f_l_bad_statement, b_l_bad_statement, eqD_int, e1, e2, e3', e4, ew, muw, shares_ints]) (by simp) (.three _ _ _ ok_go rfl ⟨fun h => rfl, fun _ => .inr rfl⟩ (fun h => by rcases h with h | h; exact absurd h (by rw [ne_gt]; simp); exact absurd h (by rw [ne_ga]; simp)) (by simp)) (by simp [stmS])
    · refine ex (.tup [.str sSwap, .int 0]) p4 (by simp [f_l_bad_statement, b_l_bad_statement, eqD_int, e1, e2, e3', e4, ew, muw, shares_ints]) (by simp) (.two _ _ ok_swap rfl) (by simp [stmS, ne_sg])
  · rcases (by omega : v2 = 0 ∨ v2 = 1 ∨ v2 = 2) with rfl | rfl | rfl
    · refine ex (.lst .shr [.str sGo, .int 0]) p4 (by simp [f_l_bad_statement, b_l_bad_statement, eqD_int, e1, e2, e3', e4, ew, muw, shares_ints]) (by simp) (.lst _ (by simp)) (by simp [stmS])
    · refine ex (.tup []) p4 (by simp [f_l_bad_statement, b_l_bad_statement, eqD_int, e1, e2, e3', e4, ew, muw, shares_ints]) (by simp) .nil (by simp [stmS])
    · refine ex .non p4 (by simp [f_l_bad_statement, b_l_bad_statement, eqD_int, e1, e2, e3', e4, ew, muw, shares_ints]) (by simp) .non (by simp [stmS])
  · obtain ⟨e, ee, he⟩ := pick3 (a := .int 10) (b := .bl true) (c := .non) g2 l2
    have fe : flatD e = true := by rcases he with rfl | rfl | rfl <;> rfl
    have ne : ∀ x, e = .int x → ¬ (-9 ≤ x ∧ x ≤ 9) := fun x h => by
      rcases he with rfl | rfl | rfl
      · cases h; omega
      · cases h
      · cases h
    have se := flat_share fe
    have fl := rw_cut (zs.take a) e fe (zs.drop (a + 1))
    have e0 : share (.tup [.str w, .int 0, .lst .own (eI (zs.take a) ++ e :: eI (zs.drop (a + 1)))]) = .tup [.str w, .int 0, .lst .shr (eI (zs.take a) ++ e :: eI (zs.drop (a + 1)))] := by simp [shares_ints, se]
    refine ⟨.tup [.str w, .int 0, .lst .own (eI (zs.take a) ++ e :: eI (zs.drop (a + 1)))], p4, ?_, ?_, ?_⟩
    · have z2 : min a zs.length + 1 ≤ 16777216 := by omega
      have z3 : min a zs.length + 1 + (zs.length - (a + 1)) ≤ 16777216 := by omega
      simp [f_l_bad_statement, b_l_bad_statement, eqD_int, e1, e2, e3', e4, ew, muw, shares_ints, n0, n1, n2, n3, n4, n5, ee, se, c1, c2, eI_len, z2, z3]
    · rw [e0]; exact three _ _ rfl (.inl ⟨_, .inl rfl, fl⟩)
    · rw [e0, st3, rowS_bad (d := e) (by simp) ne, Bool.and_false]
end K24

namespace K24
open FL
/-! A5: spoiled shows and blocks. -/
theorem vr_show (s : List (List Int)) : VR (eShow .shr s) := .inl ⟨_, .inl rfl, fun d hd => by
  obtain ⟨r, _, rfl⟩ := List.mem_map.mp hd; exact Rw.ints r⟩
theorem vs_shows (S : List (List (List Int))) : VS (.lst .shr (eShows .shr S)) := .inl ⟨_, .inl rfl, fun x hx => by obtain ⟨s, _, rfl⟩ := List.mem_map.mp hx; exact vr_show s⟩
theorem bad_shows_ok (k : Nat) (p : Pool) (S : List (List (List Int))) (C : Nat) (h1 : 1 ≤ S.length) (h3 : S.length ≤ 3) (hC : C ≤ 3) :
    ∃ v p', run T (k + 2) i_l_bad_shows [.lst .shr (eShows .shr S), eP p, .int (1 + (C : Int))] = some (v, [none, some (eP p'), none]) ∧ VS (share v) ∧ showsS S.length C (share v) = false := by
  obtain ⟨v1, p1, e1, g1, l1⟩ := draw_ok k p 6 (by omega) (by omega)
  obtain ⟨v2, p2, e2, g2, l2⟩ := draw_ok k p1 S.length (by omega) (by omega)
  obtain ⟨a, rfl⟩ : ∃ m : Nat, v2 = m := ⟨v2.toNat, by omega⟩
  have ha : a < S.length := by omega
  have mu := mulL_ok .own [D.int 0] (1 + C) (by simp) (by simp; omega) (by omega)
  obtain ⟨zs, hzs⟩ : ∃ z : List Int, z = List.replicate (1 + C) 0 := ⟨_, rfl⟩
  have muw : binD .mul (.lst .own [D.int 0]) (.int (1 + (C : Int))) = some (.lst .own (eI zs)) := by
    have e : ((1 + C : Nat) : Int) = 1 + (C : Int) := by omega
    rw [e] at mu
    rw [mu, hzs]
    congr 2
    have : shares [D.int 0] = [D.int 0] := by simp
    rw [this]
    clear mu hzs e
    induction (1 + C) with
    | zero => rfl
    | succ n ih => rw [List.replicate_succ, List.flatten_cons, ih, List.replicate_succ]; rfl
  have lz : zs.length = 1 + C := by rw [hzs]; simp
  have zl : (zs.length : Int) = 1 + C := by omega
  obtain ⟨ys, l, exy⟩ : ∃ (y : List Int) (l : Int), zs = y ++ [l] := ⟨zs.dropLast, zs.getLast (by intro h; rw [h] at lz; simp at lz; omega), (List.dropLast_concat_getLast _).symm⟩
  have slz : slcD (.lst .shr (eI zs)) none (some (-1)) = some (.lst .own (eI ys)) := by
    rw [slc_init, shares_ints, exy]; simp [eI]
  have ly : ys.length ≤ 3 := by have : ys.length + 1 = zs.length := by rw [exy]; simp
                                omega
  have sS : shares (eShows .shr S) = eShows .shr S := by simp
  have z1 : S.length ≤ 16777215 := by omega
  have z5 : zs.length ≤ 16777215 := by omega
  have z6 : ys.length ≤ 16777215 := by omega
  rw [r_l_bad_shows, runFn_eq rfl]
  rcases (by omega : v1 = 0 ∨ v1 = 1 ∨ v1 = 2 ∨ v1 = 3 ∨ v1 = 4 ∨ v1 = 5) with rfl | rfl | h2
  · have slm : slcD (.lst .shr (eShows .shr S)) none (some (-1)) = some (.lst .own (eShows .shr (S.take (S.length - 1)))) := by
      rw [slc_init, sS]; simp [eShows]
    refine ⟨.lst .own (eShows .shr (S.take (S.length - 1))), p2, by simp [f_l_bad_shows, b_l_bad_shows, eqD_int, e1, e2, muw, sS, slm, shares_ints], by simpa using vs_shows (S.take (S.length - 1)), ?_⟩
    have : ¬ (((S.take (S.length - 1)).length : Int) = S.length) := by simp; omega
    simp only [sh_lst, shares_eShows, showsS, eShows_len, decide_eq_false this, Bool.false_and]
  · refine ⟨.lst .own (eShows .shr S ++ [.lst .shr []]), p2, by simp [f_l_bad_shows, b_l_bad_shows, eqD_int, e1, e2, muw, sS, shares_ints, z1], ?_, ?_⟩
    · refine .inl ⟨eShows .shr S ++ [.lst .shr []], .inl (by simp), fun x hx => ?_⟩
      rcases List.mem_append.mp hx with hx | hx
      · obtain ⟨s, _, rfl⟩ := List.mem_map.mp hx; exact vr_show s
      · simp at hx; subst hx; exact vr_show []
    · have : ¬ ((S.length : Int) + 1 = S.length) := by omega
      simp [showsS, this]
  · have c1 : slcD (.lst .shr (eShows .shr S)) none (some (a : Int)) = some (.lst .own (eShows .shr (S.take a))) := by
      rw [slc_to, sS]; simp [eShows]
    have c2 : slcD (.lst .shr (eShows .shr S)) (some ((a : Int) + 1)) none = some (.lst .own (eShows .shr (S.drop (a + 1)))) := by
      have := slc_from .shr (eShows .shr S) (a + 1)
      have e : ((a + 1 : Nat) : Int) = (a : Int) + 1 := by omega
      rw [← e, this, sS]; simp [eShows]
    obtain ⟨d, ed, rd, nd⟩ : ∃ d, L2.atI [D.lst .own [.lst .shr (eI zs), .lst .shr (eI zs), .lst .shr (eI zs)], .non, .lst .own [.lst .own (eI zs ++ [.int 0])], .lst .own [.lst .shr (eI zs), .lst .own (eI ys ++ [.int 10])]] (v1 - 2) = some d ∧ VR (share d) ∧ showS C (share d) = false := by
      rcases h2 with rfl | rfl | rfl | rfl
      · refine ⟨_, atI_0 _ _, ?_, by simp [showS]⟩
        have e : share (.lst .own [.lst .shr (eI zs), .lst .shr (eI zs), .lst .shr (eI zs)]) = eShow .shr [zs, zs, zs] := by simp [shares_ints, eShow, eRow]
        rw [e]; exact vr_show _
      · exact ⟨_, atI_1 _ _ _, by simp; exact .inr rfl, by simp [showS]⟩
      · have e : share (.lst .own [.lst .own (eI zs ++ [.int 0])]) = eShow .shr [zs ++ [0]] := by simp [shares_ints, eShow, eRow]; simp [eI]
        refine ⟨_, atI_2 _ _ _ _, by rw [e]; exact vr_show _, ?_⟩
        rw [e]
        have : rowS (1 + (C : Int)) (eRow .shr (zs ++ [0])) = false := by
          have n : ¬ (((zs ++ [0]).length : Int) = 1 + C) := by simp; omega
          rw [rowS_row, decide_eq_false n, Bool.false_and]
        simp [showS, rowsS, eShow, this]
      · have e : share (.lst .own [.lst .shr (eI zs), .lst .own (eI ys ++ [.int 10])]) = eShow .shr [zs, ys ++ [10]] := by simp [shares_ints, eShow, eRow]; simp [eI]
        refine ⟨_, atI_3 _ _ _ _ _, by rw [e]; exact vr_show _, ?_⟩
        rw [e]
        have : rowS (1 + (C : Int)) (eRow .shr (ys ++ [10])) = false := by
          rw [rowS_row]
          have : ((ys ++ [10]).all fun x => decide (-9 ≤ x) && decide (x ≤ 9)) = false := by
            rw [List.all_eq_false]; exact ⟨10, by simp, by simp⟩
          rw [this, Bool.and_false]
        simp [showS, rowsS, eShow, this]
    have nv : ¬ v1 = 0 ∧ ¬ v1 = 1 := by omega
    have sd : share (share d) = share d := share_share d
    have z2 : min a S.length ≤ 16777215 := by omega
    have z3 : min a S.length + 1 + (S.length - (a + 1)) ≤ 16777216 := by omega
    refine ⟨.lst .own (eShows .shr (S.take a) ++ share d :: eShows .shr (S.drop (a + 1))), p2, by simp [f_l_bad_shows, b_l_bad_shows, eqD_int, e1, e2, muw, sS, shares_ints, nv, slz, z5, z6, eI_len, ed, c1, c2, sd, z2, z3], ?_, ?_⟩
    · refine .inl ⟨eShows .shr (S.take a) ++ share d :: eShows .shr (S.drop (a + 1)), .inl (by simp [sd]), fun x hx => ?_⟩
      rcases List.mem_append.mp hx with hx | hx
      · obtain ⟨s, _, rfl⟩ := List.mem_map.mp hx; exact vr_show s
      · rcases List.mem_cons.mp hx with rfl | hx
        · exact rd
        · obtain ⟨s, _, rfl⟩ := List.mem_map.mp hx; exact vr_show s
    · have e : share (.lst .own (eShows .shr (S.take a) ++ share d :: eShows .shr (S.drop (a + 1)))) = .lst .shr (eShows .shr (S.take a) ++ share d :: eShows .shr (S.drop (a + 1))) := by simp [sd]
      have : (eShows .shr (S.take a) ++ share d :: eShows .shr (S.drop (a + 1))).all (showS C) = false := by
        rw [List.all_eq_false]; exact ⟨share d, by simp, by simp [nd]⟩
      rw [e]
      simp only [showsS, this, Bool.and_false]
end K24

namespace K24
open FL
/-! A6: spoiled blocks. -/
/-- a name for an item: the body leaves the container alone (what stands in it meanwhile is known) -/
theorem ss_ali_nv {Γ : Ctx} {ρ ρ2 : Env} {i : Nat} {p : Pl} {body rest : Ss} {y y' d z' : D} {ns : List Int} (h2 : ixsD ρ p = some ns) (h3 : getS ρ p.base = some d) (h1 : getN ns d = some y) (hne : i ≠ p.base) (hi : i < ρ.length)
    (hb : ∀ (v : L2.V) (z : D), putN ns d (.hole v) = some z → exSs Γ body ((ρ.set p.base (some z)).set i (some y)) = some (.nx (ρ2.set p.base (some z)))) (h5 : getS ρ2 i = some y') (hl : p.base < ρ2.length) (h6 : putN ns d y' = some z') :
    exSs Γ (.ali i p body rest) ρ = exSs Γ rest ((ρ2.set i none).set p.base (some z')) := by
  rw [ss_ali, getP_N h3 h2, h1, h2]
  simp only [Option.bind_some]
  rw [allV_of (r := .nx ((ρ2.set i none).set p.base (some z')))]
  · rfl
  · intro v
    obtain ⟨z, f1, f2, f3⟩ := putN_of (.hole v) h1
    rw [putP_N h3 h2, f1]
    simp only [Option.bind_some]
    have hp : putS (ρ.set p.base (some z)) i y = some ((ρ.set p.base (some z)).set i (some y)) := by unfold putS; rw [if_pos (by rw [len_set]; exact hi)]
    rw [hp]
    simp only [Option.bind_some]
    rw [hb v z f1]
    simp only [Option.bind_some, giveF_nx]
    rw [giveE_of (y := y') (d := z) (z := z') ((getS_set_ne (Ne.symm hne)).trans h5) (getS_set_eq hl) f2 ((f3 y').trans h6)]
    simp only [Option.map_some]
    rw [List.set_comm _ _ (Ne.symm hne), List.set_set]
theorem sm_stm (s : Stm) : Sm (eStm .shr s) := by
  cases s with
  | go t => exact .two _ _ ok_go rfl
  | swap a b => exact .three _ _ _ ok_swap rfl ⟨fun _ => rfl, fun _ => .inr rfl⟩ (fun h => by rcases h with h | h; exact absurd h (by rw [ne_st]; simp); exact absurd h (by rw [ne_sa]; simp)) (by simp)
  | upd ad c row =>
    exact .three _ _ _ (ok_upd ad) rfl ⟨fun h => absurd h (by rw [ne_us]; simp), fun _ => .inl (Rw.ints row)⟩ (fun _ => Rw.ints row) (by simp [shares_ints])
theorem bk_blk (b : List Stm) : Bk (eBlk .shr b) := .inl ⟨_, .inl rfl, fun d hd => by obtain ⟨s, _, rfl⟩ := List.mem_map.mp hd; exact sm_stm s⟩
theorem lk_bl (l : List (List Stm)) : Lk (eBl .shr l) := ⟨_, .inl rfl, fun d hd => by obtain ⟨s, _, rfl⟩ := List.mem_map.mp hd; exact bk_blk s⟩
theorem vb_bs (bs : List (List (List Stm))) : VB (.lst .shr (eBs .shr bs)) := ⟨_, .inl rfl, fun d hd => by obtain ⟨s, _, rfl⟩ := List.mem_map.mp hd; exact lk_bl s⟩
theorem blocks_line (S : SD) {c : Nat} (hc : c < S.blocks.length) (d : D) (hd : Lk (share d)) (hf : lnS S.blocks.length S.cells S.bs (share d) = false) : VB (share (.lst .own ((eBs .own S.blocks).set c d))) ∧ blocksS S.cells S.bs (share (.lst .own ((eBs .own S.blocks).set c d))) = false := by
  have e : share (.lst .own ((eBs .own S.blocks).set c d)) = .lst .shr ((eBs .shr S.blocks).set c (share d)) := by
    rw [sh_lst, shares_set, shares_eBs]; rfl
  rw [e]
  refine ⟨⟨_, .inl rfl, fun x hx => ?_⟩, ?_⟩
  · rcases List.mem_or_eq_of_mem_set hx with hx | rfl
    · obtain ⟨s, _, rfl⟩ := List.mem_map.mp hx; exact lk_bl s
    · exact hd
  · have : ((eBs .shr S.blocks).set c (share d)).all (lnS ((eBs .shr S.blocks).set c (share d)).length S.cells S.bs) = false := by
      rw [List.all_eq_false]
      refine ⟨share d, List.mem_iff_getElem.mpr ⟨c, by simpa using hc, by simp⟩, ?_⟩
      simp only [List.length_set, eBs_len, hf]
      simp
    simp only [blocksS, this, Bool.and_false]
theorem blocks_set (S : SD) (h : S.Ok) {c j : Nat} {l : List (List Stm)} {b : Int} (hc : S.blocks[c]? = some l) (hj : S.bs[j]? = some b) (d : D) (hd : Bk (share d)) (hf : blkS S.blocks.length S.cells b (share d) = false) :
    VB (share (.lst .own ((eBs .own S.blocks).set c (.lst .own ((l.map (eBlk .own)).set j d))))) ∧ blocksS S.cells S.bs (share (.lst .own ((eBs .own S.blocks).set c (.lst .own ((l.map (eBlk .own)).set j d))))) = false := by
  have hcl := (List.getElem?_eq_some_iff.mp hc).1
  have hl := (h.line l (List.mem_of_getElem? hc)).1
  have hjl : j < l.length := by rw [hl]; exact (List.getElem?_eq_some_iff.mp hj).1
  have e0 : share (.lst .own ((l.map (eBlk .own)).set j d)) = .lst .shr ((l.map (eBlk .shr)).set j (share d)) := by
    rw [sh_lst, shares_set, shares_eBlk]; rfl
  refine blocks_line S hcl _ ?_ ?_
  · rw [e0]
    refine ⟨_, .inl rfl, fun x hx => ?_⟩
    rcases List.mem_or_eq_of_mem_set hx with hx | rfl
    · obtain ⟨s, _, rfl⟩ := List.mem_map.mp hx; exact bk_blk s
    · exact hd
  · rw [e0]
    have hb : S.bs.getD j 0 = b := by rw [List.getD_eq_getElem?_getD, hj]; rfl
    have : (enumA 0 ((l.map (eBlk .shr)).set j (share d))).all (fun p => blkS S.blocks.length S.cells (S.bs.getD p.1 0) p.2) = false := by
      rw [List.all_eq_false]
      refine ⟨(0 + j, share d), enumA_get (by rw [List.getElem?_set_self (by simpa using hjl)]), ?_⟩
      simp only [Nat.zero_add, hb, hf]
      simp
    rw [lnS, this, Bool.and_false]
abbrev rK (S : SD) (P : Pool) (dd pk : Int) (X : D) (c j : Nat) (B : D) : Env := [some (ePS .shr .shr S), some (eP P), some (.int dd), some (.int pk), some X, some (.int c), some (.int j), some B, none, none, none]
theorem bad_blocks_ok (k : Nat) (p : Pool) (S : SD) (h : S.Ok) : ∃ v p', run T (k + 3) i_l_bad_blocks [ePS .shr .shr S, eP p] = some (v, [none, some (eP p')]) ∧ VB (share v) ∧ blocksS S.cells S.bs (share v) = false := by
  have n1 := h.n1
  have n3 := h.n3
  have k1 := h.k1
  have k3 := h.k3
  obtain ⟨v1, p1, e1, g1, l1⟩ := draw_ok (k + 1) p 5 (by omega) (by omega)
  obtain ⟨v2, p2, e2, g2, l2⟩ := draw_ok (k + 1) p1 3 (by omega) (by omega)
  obtain ⟨v3, p3, e3, g3, l3⟩ := draw_ok (k + 1) p2 S.blocks.length (by omega) (by omega)
  obtain ⟨v4, p4, e4, g4, l4⟩ := draw_ok (k + 1) p3 S.bs.length (by omega) (by omega)
  obtain ⟨c, rfl⟩ : ∃ m : Nat, v3 = m := ⟨v3.toNat, by omega⟩
  obtain ⟨j, rfl⟩ : ∃ m : Nat, v4 = m := ⟨v4.toNat, by omega⟩
  have hc : c < S.blocks.length := by omega
  have hjb : j < S.bs.length := by omega
  obtain ⟨l, hlc⟩ : ∃ l, S.blocks[c]? = some l := ⟨_, List.getElem?_eq_getElem hc⟩
  obtain ⟨ll, lr⟩ := h.line l (List.mem_of_getElem? hlc)
  have hjl : j < l.length := by omega
  obtain ⟨B, hB⟩ : ∃ B, l[j]? = some B := ⟨_, List.getElem?_eq_getElem hjl⟩
  obtain ⟨b, hb⟩ : ∃ b, S.bs[j]? = some b := ⟨_, List.getElem?_eq_getElem hjb⟩
  obtain ⟨B6, Bs⟩ := lr j b B hb hB
  have hb03 := h.b b (List.mem_of_getElem? hb)
  have cp := blocks_copy_ok k S h
  have lE : (eBs .own S.blocks).length = S.blocks.length := by simp
  have hcE : (eBs .own S.blocks)[c]? = some (.lst .own (l.map (eBlk .own))) := by rw [eBs, List.getElem?_map, hlc]; rfl
  have hjE : (l.map (eBlk .own))[j]? = some (.lst .own (B.map (eStm .own))) := by rw [List.getElem?_map, hB]; rfl
  have g0 : get1 (.lst .own (eBs .own S.blocks)) (c : Int) = some (.lst .own (l.map (eBlk .own))) := by rw [get1_l, hcE]
  have g1' : get1 (.lst .own (l.map (eBlk .own))) (j : Int) = some (.lst .own (B.map (eStm .own))) := by rw [get1_l, hjE]
  have u0 : ∀ z, put1 (.lst .own (eBs .own S.blocks)) (c : Int) z = some (.lst .own ((eBs .own S.blocks).set c z)) := fun z => put1_l _ c z (by rw [lE]; exact hc)
  have u1 : ∀ z, put1 (.lst .own (l.map (eBlk .own))) (j : Int) z = some (.lst .own ((l.map (eBlk .own)).set j z)) := fun z => put1_l _ j z (by simpa using hjl)
  have g0' : ∀ X, get1 (.lst .own ((eBs .own S.blocks).set c X)) (c : Int) = some X := fun X => by rw [get1_l, List.getElem?_set_self (by rw [lE]; exact hc)]
  have u0' : ∀ X z, put1 (.lst .own ((eBs .own S.blocks).set c X)) (c : Int) z = some (.lst .own ((eBs .own S.blocks).set c z)) := fun X z => by rw [put1_l _ c z (by rw [List.length_set, lE]; exact hc), List.set_set]
  have sj : ∀ X d, setID (.lst .own ((l.map (eBlk .own)).set j X)) (.int j) d = some (.lst .own ((l.map (eBlk .own)).set j d)) := fun X d => by rw [setI_l, List.length_set, List.length_map, ixN_ok _ j hjl]; simp
  have sc : ∀ X d, setID (.lst .own ((eBs .own S.blocks).set c X)) (.int c) d = some (.lst .own ((eBs .own S.blocks).set c d)) := fun X d => by rw [setI_l, List.length_set, lE, ixN_ok _ c hc]; simp
  have sB : shares (B.map (eStm .shr)) = B.map (eStm .shr) := shares_eStm .shr B
  have sBo : shares (B.map (eStm .own)) = B.map (eStm .shr) := shares_eStm .own B
  have head : exSs (G (k + 2)) (takeS 6 b_l_bad_blocks) [some (ePS .shr .shr S), some (eP p), none, none, none, none, none, none, none, none, none] = some (.nx (rK S p4 v1 v2 (.lst .own ((eBs .own S.blocks).set c (.lst .own ((l.map (eBlk .own)).set j (.lst .shr (B.map (eStm .shr))))))) c j (.lst .shr (B.map (eStm .shr))))) := by
    have sp : share (ePS .shr .shr S) = ePS .shr .shr S := by simp
    simp only [ePS] at *
    simp [b_l_bad_blocks, takeS, rK, ePS, e1, e2, e3, e4, cp, shares_ints, eI_len, getP, putP, ixD, intS, Pl.base, g0, g1', u0, u1, g0', u0', sBo, sB]
  have run_of : ∀ (v : D) (P : Pool) (ρ : Env), ρ[1]? = some (some (eP P)) → exSs (G (k + 2)) (.alt p_l_bad_blocks_v1 p_l_bad_blocks_v2) (rK S p4 v1 v2 (.lst .own ((eBs .own S.blocks).set c (.lst .own ((l.map (eBlk .own)).set j (.lst .shr (B.map (eStm .shr))))))) c j (.lst .shr (B.map (eStm .shr)))) = some (.rt v ρ) → run T (k + 3) i_l_bad_blocks [ePS .shr .shr S, eP p] = some (v, [none, some (eP P)]) := fun v P ρ hρ e => by
    have key := ss_two 6 (b := b_l_bad_blocks) head (show exSs (G (k + 2)) (dropS 6 b_l_bad_blocks) _ = _ from e)
    rw [r_l_bad_blocks, runFn_eq rfl]
    have gs : getS ρ 1 = some (eP P) := by unfold getS; rw [hρ]
    simp [f_l_bad_blocks, key, outsFrom, gs]
  have shX : shares ((l.map (eBlk .own)).set j (.lst .shr (B.map (eStm .shr)))) = l.map (eBlk .shr) := by
    rw [shares_set, shares_eBlk]
    have e : share (.lst .shr (B.map (eStm .shr))) = eBlk .shr B := by simp [sB, eBlk]
    rw [e]
    apply List.ext_getElem?
    intro m
    rw [List.getElem?_set]
    by_cases q : j = m
    · subst q; rw [if_pos rfl, if_pos (by simpa using hjl), List.getElem?_map, hB]; rfl
    · rw [if_neg q]; rfl
  have sLS : shares (l.map (eBlk .shr)) = l.map (eBlk .shr) := shares_eBlk .shr l
  have px : v2 = 0 ∨ v2 = 1 ∨ v2 = 2 := by omega
  have nv : ∀ (Γ : Ctx) (ρ : Env), exS Γ .nev ρ = none := fun Γ ρ => by simp only [exS]
  rcases (by omega : v1 = 1 ∨ v1 = 2 ∨ v1 = 0 ∨ (v1 ≠ 0 ∧ v1 ≠ 1 ∧ v1 ≠ 2)) with rfl | rfl | rfl | ⟨q0, q1, q2⟩
  · obtain ⟨ys, y, eL⟩ : ∃ (ys : List (List Stm)) (y : List Stm), l = ys ++ [y] := ⟨l.dropLast, l.getLast (by intro q; rw [q] at hjl; simp at hjl), (List.dropLast_concat_getLast _).symm⟩
    have ly : ys.length + 1 = l.length := by rw [eL]; simp
    have sys : shares (ys.map (eBlk .shr)) = ys.map (eBlk .shr) := shares_eBlk .shr ys
    have slm : slcD (.lst .shr (l.map (eBlk .shr))) none (some (-1)) = some (.lst .own (ys.map (eBlk .shr))) := by
      rw [slc_init, sLS, eL]; simp
    have z1 : l.length ≤ 16777215 := by omega
    have goodL : ∀ d, Lk (share d) → lnS S.blocks.length S.cells S.bs (share d) = false → ∀ (P : Pool) (ρ : Env), ρ[1]? = some (some (eP P)) → exSs (G (k + 2)) p_l_bad_blocks_v1 (rK S p4 1 v2 (.lst .own ((eBs .own S.blocks).set c (.lst .own ((l.map (eBlk .own)).set j (.lst .shr (B.map (eStm .shr))))))) c j (.lst .shr (B.map (eStm .shr)))) = some (.rt (.lst .own ((eBs .own S.blocks).set c d)) ρ) →
        ∃ v p', run T (k + 3) i_l_bad_blocks [ePS .shr .shr S, eP p] = some (v, [none, some (eP p')]) ∧ VB (share v) ∧ blocksS S.cells S.bs (share v) = false := fun d hd hf P ρ hρ e =>
      ⟨_, P, run_of _ P ρ hρ (by rw [ss_alt]; exact alt_l e), (blocks_line S hc d hd hf).1, (blocks_line S hc d hd hf).2⟩
    rcases px with rfl | rfl | rfl
    · refine goodL (.lst .shr (ys.map (eBlk .shr))) ⟨ys.map (eBlk .shr), .inl (by simp [sys]), fun d hd => by obtain ⟨r, _, rfl⟩ := List.mem_map.mp hd; exact bk_blk r⟩ ?_ p4 _ rfl (by
        simp [p_l_bad_blocks_v1, rK, getP, putP, ixD, intS, Pl.base, g0', u0', sc, shX, sLS, sys, eqD_int, slm, z1, -setI_l]
        rfl)
      have : ¬ ((ys.length : Int) = S.bs.length) := by omega
      simp [lnS, this]
    · refine goodL (.lst .shr (l.map (eBlk .shr) ++ [.lst .shr []])) ⟨l.map (eBlk .shr) ++ [.lst .shr []], .inl (by simp [sLS]), fun d hd => ?_⟩ ?_ p4 _ rfl (by
        simp [p_l_bad_blocks_v1, rK, getP, putP, ixD, intS, Pl.base, g0', u0', sc, shX, sLS, sys, eqD_int, slm, z1, -setI_l]
        rfl)
      · rcases List.mem_append.mp hd with hd | hd
        · obtain ⟨r, _, rfl⟩ := List.mem_map.mp hd; exact bk_blk r
        · simp at hd; subst hd; exact bk_blk []
      · have : ¬ ((l.length : Int) + 1 = S.bs.length) := by omega
        simp [lnS, this]
    · refine goodL (.tup (l.map (eBlk .shr))) ⟨l.map (eBlk .shr), .inr (by simp [sLS]), fun d hd => by obtain ⟨r, _, rfl⟩ := List.mem_map.mp hd; exact bk_blk r⟩ (by simp [lnS]) p4 _ rfl (by
        simp [p_l_bad_blocks_v1, rK, getP, putP, ixD, intS, Pl.base, g0', u0', sc, shX, sLS, sys, eqD_int, slm, z1, -setI_l]
        rfl)
  · have shA : shares ((eBs .own S.blocks).set c (.lst .shr (l.map (eBlk .shr)))) = eBs .shr S.blocks := by
      rw [shares_set, shares_eBs]
      have e : share (.lst .shr (l.map (eBlk .shr))) = eBl .shr l := by simp [sLS, eBl]
      rw [e]
      show (S.blocks.map (eBl .shr)).set c (eBl .shr l) = S.blocks.map (eBl .shr)
      apply List.ext_getElem?
      intro m
      rw [List.getElem?_set]
      by_cases q : c = m
      · subst q; rw [if_pos rfl, if_pos (by simpa using hc), List.getElem?_map, hlc]; rfl
      · rw [if_neg q]
    have goodV : ∀ v, VB (share v) → blocksS S.cells S.bs (share v) = false → ∀ (P : Pool) (ρ : Env), ρ[1]? = some (some (eP P)) → exSs (G (k + 2)) p_l_bad_blocks_v1 (rK S p4 2 v2 (.lst .own ((eBs .own S.blocks).set c (.lst .own ((l.map (eBlk .own)).set j (.lst .shr (B.map (eStm .shr))))))) c j (.lst .shr (B.map (eStm .shr)))) = some (.rt v ρ) →
        ∃ v p', run T (k + 3) i_l_bad_blocks [ePS .shr .shr S, eP p] = some (v, [none, some (eP p')]) ∧ VB (share v) ∧ blocksS S.cells S.bs (share v) = false := fun v hv hf P ρ hρ e =>
      ⟨_, P, run_of _ P ρ hρ (by rw [ss_alt]; exact alt_l e), hv, hf⟩
    have z2 : S.blocks.length + S.blocks.length ≤ 16777216 := by omega
    have z3 : S.blocks.length + S.blocks.length + S.blocks.length ≤ 16777216 := by omega
    have z4 : S.blocks.length + (S.blocks.length + S.blocks.length) + S.blocks.length ≤ 16777216 := by omega
    rcases px with rfl | rfl | rfl
    · refine goodV (.lst .shr []) (by have := vb_bs []; simp only [eBs, List.map_nil] at this; simpa using this) (by simp [blocksS]) p4 _ rfl (by
        simp [p_l_bad_blocks_v1, rK, getP, putP, ixD, intS, Pl.base, g0', u0', sc, shX, sLS, eqD_int, shA, z2, z3, z4, -setI_l]
        rfl)
    · refine goodV (.tup (eBs .shr S.blocks)) ⟨eBs .shr S.blocks, .inr (by simp), fun d hd => by obtain ⟨m, _, rfl⟩ := List.mem_map.mp hd; exact lk_bl m⟩ (by simp [blocksS]) p4 _ rfl (by
        simp [p_l_bad_blocks_v1, rK, getP, putP, ixD, intS, Pl.base, g0', u0', sc, shX, sLS, eqD_int, shA, z2, z3, z4, -setI_l]
        rfl)
    · have e4 : eBs .shr (S.blocks ++ (S.blocks ++ (S.blocks ++ S.blocks))) = eBs .shr S.blocks ++ (eBs .shr S.blocks ++ (eBs .shr S.blocks ++ eBs .shr S.blocks)) := by simp [eBs]
      refine goodV (.lst .shr (eBs .shr (S.blocks ++ (S.blocks ++ (S.blocks ++ S.blocks))))) (by simpa using vb_bs (S.blocks ++ (S.blocks ++ (S.blocks ++ S.blocks)))) ?_ p4 _ rfl (by
        rw [e4]
        simp [p_l_bad_blocks_v1, rK, getP, putP, ixD, intS, Pl.base, g0', u0', sc, shX, sLS, eqD_int, shA, z2, z3, z4, -setI_l]
        rfl)
      have : ¬ (((S.blocks ++ (S.blocks ++ (S.blocks ++ S.blocks))).length : Int) ≤ 3) := by simp; omega
      simp only [sh_lst, shares_eBs, blocksS, eBs_len, decide_eq_false this, Bool.false_and, Bool.and_false]
  · have none1 : exSs (G (k + 2)) p_l_bad_blocks_v1 (rK S p4 0 v2 (.lst .own ((eBs .own S.blocks).set c (.lst .own ((l.map (eBlk .own)).set j (.lst .shr (B.map (eStm .shr))))))) c j (.lst .shr (B.map (eStm .shr)))) = none := by
      simp [p_l_bad_blocks_v1, rK, getP, putP, ixD, intS, Pl.base, g0', u0', shX, eqD_int, nv, thenS_none]
    have mk : ∀ d, Bk (share d) → blkS S.blocks.length S.cells b (share d) = false → (∀ (z : D), ∃ ρ2 : Env, True) → (∀ (v : L2.V) (z : D), exSs (G (k + 2)) p_l_bad_blocks_a3 [some (ePS .shr .shr S), some (eP p4), some (.int 0), some (.int v2), some z, some (.int c), some (.int j), some (.lst .shr (B.map (eStm .shr))), some (.lst .own ((l.map (eBlk .own)).set j (.lst .shr (B.map (eStm .shr))))), none, none] = some (.nx [some (ePS .shr .shr S), some (eP p4), some (.int 0), none, some z, some (.int c), none, some (.lst .shr (B.map (eStm .shr))), some (.lst .own ((l.map (eBlk .own)).set j d)), none, none])) →
        ∃ v p', run T (k + 3) i_l_bad_blocks [ePS .shr .shr S, eP p] = some (v, [none, some (eP p')]) ∧ VB (share v) ∧ blocksS S.cells S.bs (share v) = false := fun d hd hf _ e => by
      have two : exSs (G (k + 2)) p_l_bad_blocks_v2 (rK S p4 0 v2 (.lst .own ((eBs .own S.blocks).set c (.lst .own ((l.map (eBlk .own)).set j (.lst .shr (B.map (eStm .shr))))))) c j (.lst .shr (B.map (eStm .shr)))) = some (.rt (.lst .own ((eBs .own S.blocks).set c (.lst .own ((l.map (eBlk .own)).set j d)))) [some (ePS .shr .shr S), some (eP p4), some (.int 0), none, none, some (.int c), none, some (.lst .shr (B.map (eStm .shr))), none, none, none]) := by
        unfold p_l_bad_blocks_v2
        rw [ss_ali_nv (ρ2 := [some (ePS .shr .shr S), some (eP p4), some (.int 0), none, none, some (.int c), none, some (.lst .shr (B.map (eStm .shr))), some (.lst .own ((l.map (eBlk .own)).set j d)), none, none]) (ns := [(c : Int)]) (d := .lst .own ((eBs .own S.blocks).set c (.lst .own ((l.map (eBlk .own)).set j (.lst .shr (B.map (eStm .shr))))))) (y := .lst .own ((l.map (eBlk .own)).set j (.lst .shr (B.map (eStm .shr))))) (y' := .lst .own ((l.map (eBlk .own)).set j d)) (z' := .lst .own ((eBs .own S.blocks).set c (.lst .own ((l.map (eBlk .own)).set j d))))
          (by simp [rK, ixsD, ixD, intS]) (by simp [rK, Pl.base]) (by simp [getN, g0']) (by simp [Pl.base]) (by simp [rK]) (fun v z _ => by simpa [rK, Pl.base] using e v z) (by simp) (by simp [Pl.base]) (by simp [putN, g0', u0'])]
        simp [p_l_bad_blocks_r4, Pl.base]
      exact ⟨_, p4, run_of _ p4 _ rfl (by rw [ss_alt, alt_r none1]; exact two), (blocks_set S h hlc hb d hd hf).1, (blocks_set S h hlc hb d hd hf).2⟩
    rcases px with rfl | rfl | rfl
    · have mu := mulL_ok .own [D.tup [.str sGo, .int 0]] 7 (by simp) (by simp) (by omega)
      have e7 : (List.replicate 7 (shares [D.tup [.str sGo, .int 0]])).flatten = (List.replicate 7 (Stm.go 0)).map (eStm .shr) := by simp [List.replicate, eStm]
      rw [e7] at mu
      have mu : binD .mul (.lst .own [D.tup [.str sGo, .int 0]]) (.int 7) = some (.lst .own ((List.replicate 7 (Stm.go 0)).map (eStm .shr))) := mu
      have s7 : shares ((List.replicate 7 (Stm.go 0)).map (eStm .shr)) = (List.replicate 7 (Stm.go 0)).map (eStm .shr) := shares_eStm .shr _
      have l7 : ((List.replicate 7 (Stm.go 0)).map (eStm .shr)).length = 7 := by simp
      have eA : B.map (eStm .shr) ++ (List.replicate 7 (Stm.go 0)).map (eStm .shr) = (B ++ List.replicate 7 (Stm.go 0)).map (eStm .shr) := by simp
      have eBk : share (.lst .shr (B.map (eStm .shr) ++ (List.replicate 7 (Stm.go 0)).map (eStm .shr))) = eBlk .shr (B ++ List.replicate 7 (Stm.go 0)) := by rw [eA]; simp [eBlk, shares_eStm]
      generalize hR : (List.replicate 7 (Stm.go 0)).map (eStm .shr) = R7 at *
      refine mk (.lst .shr (B.map (eStm .shr) ++ R7)) (by rw [eBk]; exact bk_blk _) ?_ (fun _ => ⟨[], trivial⟩) (fun v z => ?_)
      · rw [eBk]
        have : ¬ (((B ++ List.replicate 7 (Stm.go 0)).length : Int) ≤ 6) := by simp; omega
        simp only [eBlk, blkS, List.length_map, decide_eq_false this, Bool.false_and]
      · have z1 : B.length + 7 ≤ 16777216 := by omega
        simp [p_l_bad_blocks_a3, eqD_int, sB, mu, s7, l7, z1, sj, -setI_l]
    · refine mk (.tup (B.map (eStm .shr))) ?_ (by simp [blkS]) (fun _ => ⟨[], trivial⟩) (fun v z => ?_)
      · exact .inl ⟨B.map (eStm .shr), .inr (by simp [sB]), fun d hd => by obtain ⟨s, _, rfl⟩ := List.mem_map.mp hd; exact sm_stm s⟩
      · have z1 : B.length + 7 ≤ 16777216 := by omega
        have mu := mulL_ok .own [D.tup [.str sGo, .int 0]] 7 (by simp) (by simp) (by omega)
        have mu : binD .mul (.lst .own [D.tup [.str sGo, .int 0]]) (.int 7) = _ := mu
        have l7 : ((List.replicate 7 (shares [D.tup [.str sGo, .int 0]])).flatten).length = 7 := by simp
        generalize (List.replicate 7 (shares [D.tup [.str sGo, .int 0]])).flatten = R7 at *
        simp [p_l_bad_blocks_a3, eqD_int, sB, mu, l7, z1, sj, -setI_l]
    · refine mk .non (by simp; exact .inr rfl) (by simp [blkS]) (fun _ => ⟨[], trivial⟩) (fun v z => ?_)
      have z1 : B.length + 7 ≤ 16777216 := by omega
      have mu := mulL_ok .own [D.tup [.str sGo, .int 0]] 7 (by simp) (by simp) (by omega)
      have mu : binD .mul (.lst .own [D.tup [.str sGo, .int 0]]) (.int 7) = _ := mu
      have l7 : ((List.replicate 7 (shares [D.tup [.str sGo, .int 0]])).flatten).length = 7 := by simp
      generalize (List.replicate 7 (shares [D.tup [.str sGo, .int 0]])).flatten = R7 at *
      simp [p_l_bad_blocks_a3, eqD_int, sB, mu, l7, z1, sj, -setI_l]
  · have none1 : exSs (G (k + 2)) p_l_bad_blocks_v1 (rK S p4 v1 v2 (.lst .own ((eBs .own S.blocks).set c (.lst .own ((l.map (eBlk .own)).set j (.lst .shr (B.map (eStm .shr))))))) c j (.lst .shr (B.map (eStm .shr)))) = none := by
      simp [p_l_bad_blocks_v1, rK, getP, putP, ixD, intS, Pl.base, g0', u0', shX, eqD_int, q0, q1, q2, nv, thenS_none]
    obtain ⟨v5, p5, e5, g5, l5⟩ := draw_ok (k + 1) p4 ((B.length : Int) + 1) (by omega) (by omega)
    obtain ⟨a, rfl⟩ : ∃ m : Nat, v5 = m := ⟨v5.toNat, by omega⟩
    obtain ⟨dd, p6, e6, sm, nd⟩ := bad_statement_ok k p5 S.blocks.length S.cells b h.c1 h.c3 hb03
    have sdd : share (share dd) = share dd := share_share dd
    have ab : L2.atI (eI S.bs) (j : Int) = some (.int b) := by rw [atI_nat, eI_get, hb]; rfl
    have c1 : slcD (.lst .shr (B.map (eStm .shr))) none (some (a : Int)) = some (.lst .own ((B.take a).map (eStm .shr))) := by
      rw [slc_to, sB]; simp
    have c2 : slcD (.lst .shr (B.map (eStm .shr))) (some ((a : Int) + 1)) none = some (.lst .own ((B.drop (a + 1)).map (eStm .shr))) := by
      have := slc_from .shr (B.map (eStm .shr)) (a + 1)
      have e : ((a + 1 : Nat) : Int) = (a : Int) + 1 := by omega
      rw [← e, this, sB]; simp
    have sT := shares_eStm .shr (B.take a)
    have sD := shares_eStm .shr (B.drop (a + 1))
    simp only [show Fl.shr.sh = .shr from rfl] at sT sD
    have lT : (B.take a).length ≤ 6 := by rw [List.length_take]; omega
    have lD : (B.drop (a + 1)).length ≤ 6 := by rw [List.length_drop]; omega
    generalize hT : B.take a = BT at *
    generalize hD : B.drop (a + 1) = BD at *
    have z1 : BT.length ≤ 16777215 := by omega
    have z2 : BT.length + 1 + BD.length ≤ 16777216 := by omega
    have bsh : share (.lst .own (BT.map (eStm .shr) ++ share dd :: BD.map (eStm .shr))) = .lst .shr (BT.map (eStm .shr) ++ share dd :: BD.map (eStm .shr)) := by simp [sT, sD, sdd]
    have two : exSs (G (k + 2)) p_l_bad_blocks_v2 (rK S p4 v1 v2 (.lst .own ((eBs .own S.blocks).set c (.lst .own ((l.map (eBlk .own)).set j (.lst .shr (B.map (eStm .shr))))))) c j (.lst .shr (B.map (eStm .shr)))) = some (.rt (.lst .own ((eBs .own S.blocks).set c (.lst .own ((l.map (eBlk .own)).set j (.lst .own (BT.map (eStm .shr) ++ share dd :: BD.map (eStm .shr))))))) [some (ePS .shr .shr S), some (eP p6), some (.int v1), some (.int v2), none, some (.int c), none, some (.lst .shr (B.map (eStm .shr))), none, some (.int a), none]) := by
      unfold p_l_bad_blocks_v2
      rw [ss_ali_nv (ρ2 := [some (ePS .shr .shr S), some (eP p6), some (.int v1), some (.int v2), none, some (.int c), none, some (.lst .shr (B.map (eStm .shr))), some (.lst .own ((l.map (eBlk .own)).set j (.lst .own (BT.map (eStm .shr) ++ share dd :: BD.map (eStm .shr))))), some (.int a), none]) (ns := [(c : Int)]) (d := .lst .own ((eBs .own S.blocks).set c (.lst .own ((l.map (eBlk .own)).set j (.lst .shr (B.map (eStm .shr))))))) (y := .lst .own ((l.map (eBlk .own)).set j (.lst .shr (B.map (eStm .shr))))) (y' := .lst .own ((l.map (eBlk .own)).set j (.lst .own (BT.map (eStm .shr) ++ share dd :: BD.map (eStm .shr))))) (z' := .lst .own ((eBs .own S.blocks).set c (.lst .own ((l.map (eBlk .own)).set j (.lst .own (BT.map (eStm .shr) ++ share dd :: BD.map (eStm .shr)))))))
        (by simp [rK, ixsD, ixD, intS]) (by simp [rK, Pl.base]) (by simp [getN, g0']) (by simp [Pl.base]) (by simp [rK]) (fun v z hz => ?_) (by simp) (by simp [Pl.base]) (by simp [putN, g0', u0'])]
      · simp [p_l_bad_blocks_r4, Pl.base]
      · simp [putN, g0', u0'] at hz
        subst hz
        have sp : share (ePS .shr .shr S) = ePS .shr .shr S := by simp
        simp only [ePS] at *
        simp [p_l_bad_blocks_a3, rK, ePS, Pl.base, eqD_int, q0, q1, q2, sB, e5, shares_ints, ab, e6, c1, c2, z1, z2, sT, sD, sdd, sj, -setI_l]
    refine ⟨_, p6, run_of _ p6 _ rfl (by rw [ss_alt, alt_r none1]; exact two), blocks_set S h hlc hb _ ?_ ?_⟩
    · rw [bsh]
      refine .inl ⟨_, .inl rfl, fun d hd => ?_⟩
      rcases List.mem_append.mp hd with hd | hd
      · obtain ⟨s, _, rfl⟩ := List.mem_map.mp hd; exact sm_stm s
      · rcases List.mem_cons.mp hd with rfl | hd
        · exact sm
        · obtain ⟨s, _, rfl⟩ := List.mem_map.mp hd; exact sm_stm s
    · rw [bsh]
      have : (BT.map (eStm .shr) ++ share dd :: BD.map (eStm .shr)).all (stmS S.blocks.length S.cells b) = false := by
        rw [List.all_eq_false]; exact ⟨share dd, by simp, by simp [nd]⟩
      simp only [blkS, this, Bool.and_false]
end K24

namespace K24
open FL
/-! A7: refusals of a script; questions. -/
theorem l_script_ok (k : Nat) (S : SD) (h : S.Ok) : run T (k + 8) i_l_script [ePS .shr .shr S] = some (eS .own S, [none]) := by
  rw [r_l_script, runFn_eq rfl]
  have e1 := blocks_copy_ok (k + 5) S h
  have e2 := sinit_ok k S h
  have hn3 := h.n3
  have key := compL_mapT (bind := bindT (.name 2)) (cond := evC (G (k + 7)) .no) (elt := evE (G (k + 7)) p_l_script_c1) (vs := [2]) (ρ := [some (ePS .shr .shr S), none, none, none]) (eShow .shr) (eShow .own) S.shows (acc := []) (fun s hs => by
    have q := h.shw s hs
    have in1 := compL_mapT (bind := bindT (.name 3)) (cond := evC (G (k + 7)) .no) (elt := evE (G (k + 7)) p_l_script_c2) (vs := [3]) (ρ := [some (ePS .shr .shr S), none, some (eShow .shr s), none]) (eRow .shr) (eRow .own) s (acc := []) (fun r hr => by
      refine ⟨[some (ePS .shr .shr S), none, some (eShow .shr s), some (eRow .shr r)], ?_, by simp⟩
      simp [p_l_script_c2, eRow, shares_ints]) (by simp; omega)
    refine ⟨[some (ePS .shr .shr S), none, some (eShow .shr s), none], ?_, by simp⟩
    simp [eShow] at in1
    simp [p_l_script_c1, eShow, shares_rows, in1]) (by rw [h.sh]; simp; omega)
  change compL _ _ _ _ (eShows .shr S.shows) _ _ = some (eShows .own S.shows, _) at key
  simp [ePS, shares_ints] at key ⊢
  simp [f_l_script, b_l_script, shares_ints, key, e1, e2]

abbrev sNoS : PySem.Str := PySem.Str.ofString "NoScript"
abbrev sPlace : PySem.Str := PySem.Str.ofString "place"
abbrev o0 : D := .obj .own (PySem.Str.ofString "Script") [] []
theorem init_b (k : Nat) (b c r s : D) (hb : Rw b) (h : burdS b = false) : Rs (k + 7) i_Scriptu_initu [o0, b, c, r, s] ⟨sNoS, some (sPlace, .str (PySem.Str.ofString "burdens"))⟩ [some o0, none, none, none, none] := by
  have e := are_burdens_dec (k + 2) b hb
  rw [h] at e
  have sb := hb.share
  unfold Rs
  rw [r_Scriptu_initu, x_Scriptu_initu, runFn_eq rfl, runFnX_eq rfl]
  simp [f_Scriptu_initu, b_Scriptu_initu, sb, e]
/-- no number of cells -/
def NotCells (c : D) : Prop := share c = c ∧ ((∀ k, run T (k + 2) i_is_index [c, .int 4] = some (.bl false, [none, none])) ∨ c = .int 0)
theorem burd_good {S : SD} (h : S.Ok) : burdS (.lst .shr (eI S.bs)) = true := by
  have h1 := h.k1
  have h3 := h.k3
  have : (eI S.bs).all (ixI 3) = true := by
    rw [List.all_eq_true]
    intro d hd
    obtain ⟨z, hz, rfl⟩ := mem_eI hd
    have := h.b z hz
    simp [ixI, this.1, this.2]
  simp only [burdS, eI_len, this, Bool.and_true]
  simp; omega
theorem init_c (k : Nat) (S : SD) (h : S.Ok) (c r s : D) (hc : NotCells c) : Rs (k + 7) i_Scriptu_initu [o0, .lst .shr (eI S.bs), c, r, s] ⟨sNoS, some (sPlace, .str (PySem.Str.ofString "cells"))⟩ [some o0, none, none, none, none] := by
  have e := are_burdens_dec (k + 2) _ (Rw.ints S.bs)
  simp only [eRow] at e
  rw [burd_good h] at e
  obtain ⟨sc, hc⟩ := hc
  unfold Rs
  rw [r_Scriptu_initu, x_Scriptu_initu, runFn_eq rfl, runFnX_eq rfl]
  rcases hc with hc | rfl
  · have hc := hc (k + 4)
    simp [f_Scriptu_initu, b_Scriptu_initu, shares_ints, e, sc, hc]
  · simp [f_Scriptu_initu, b_Scriptu_initu, shares_ints, e, eqD_int]
theorem init_k (k : Nat) (S : SD) (h : S.Ok) (r s : D) (hr : VB r) (hf : blocksS S.cells S.bs r = false) : Rs (k + 7) i_Scriptu_initu [o0, .lst .shr (eI S.bs), .int S.cells, r, s] ⟨sNoS, some (sPlace, .str (PySem.Str.ofString "blocks"))⟩ [some o0, none, none, none, none] := by
  have e := are_burdens_dec (k + 2) _ (Rw.ints S.bs)
  simp only [eRow] at e
  rw [burd_good h] at e
  have c1 := h.c1
  have c3 := h.c3
  have ix := is_index_int (k + 4) S.cells 4
  have t1 : (S.cells : Int) < 4 := by omega
  have t0 : ¬ ((S.cells : Int) = 0) := by omega
  have t0' : ¬ (S.cells = 0) := by omega
  have e2 := are_blocks_dec k r hr S.cells S.bs
  rw [hf] at e2
  have sr := hr.share
  unfold Rs
  rw [r_Scriptu_initu, x_Scriptu_initu, runFn_eq rfl, runFnX_eq rfl]
  simp [f_Scriptu_initu, b_Scriptu_initu, shares_ints, e, ix, t1, t0, t0', eqD_int, sr, e2]
theorem init_s (k : Nat) (S : SD) (h : S.Ok) (s : D) (hs : VS s) (hf : showsS S.blocks.length S.cells s = false) : Rs (k + 7) i_Scriptu_initu [o0, .lst .shr (eI S.bs), .int S.cells, .lst .shr (eBs .shr S.blocks), s] ⟨sNoS, some (sPlace, .str (PySem.Str.ofString "shows"))⟩ [some o0, none, none, none, none] := by
  have e := are_burdens_dec (k + 2) _ (Rw.ints S.bs)
  simp only [eRow] at e
  rw [burd_good h] at e
  have c1 := h.c1
  have c3 := h.c3
  have ix := is_index_int (k + 4) S.cells 4
  have t1 : (S.cells : Int) < 4 := by omega
  have t0 : ¬ ((S.cells : Int) = 0) := by omega
  have t0' : ¬ (S.cells = 0) := by omega
  have e2 := are_blocks_ok k S h
  have e3 := are_shows_dec (k + 1) s hs S.blocks.length S.cells
  rw [hf] at e3
  have ss := hs.share
  unfold Rs
  rw [r_Scriptu_initu, x_Scriptu_initu, runFn_eq rfl, runFnX_eq rfl]
  simp [f_Scriptu_initu, b_Scriptu_initu, shares_ints, e, ix, t1, t0, t0', eqD_int, ss, e2, e3]
def tNoSt : D := .tup [.str sNoStand, .bl true]
def tNoMs : D := .tup [.str sNoMessage, .int 0, .bl true]
def tTold : D := .tup [.str (PySem.Str.ofString "told")]
theorem asked_st (k : Nat) (S : SD) (d x : D) (hd : NotStand d S.blocks.length S.cells) : run T (k + 6) i_l_asked [eS .shr S, d, x] = some (tNoSt, [none, none, none]) := by
  have c := check_stand_x k d S.blocks.length S.cells hd
  obtain ⟨h1, h2⟩ := c
  have r : Rs (k + 5) i_script_hear [eS .shr S, share d, share x] ⟨sNoStand, none⟩ [none, none, none] := by
    unfold Rs
    rw [r_script_hear, x_script_hear, runFn_eq rfl, runFnX_eq rfl]
    simp [f_script_hear, b_script_hear, sh_k, sh_m, sg_k, sg_m, h1, h2]
  obtain ⟨r1, r2⟩ := r
  rw [r_l_asked, runFn_eq rfl]
  simp [f_l_asked, b_l_asked, p_l_asked_t1, r1, r2, tNoSt]
theorem asked_ms (k : Nat) (S : SD) (h : S.Ok) (s : Int × List Int) (hs : SStand S s) (x : D) (hx : NotMsg x S.bs) : run T (k + 7) i_l_asked [eS .shr S, eStand s, x] = some (tNoMs, [none, none, none]) := by
  have e1 := check_stand_ok (k + 1) s S.blocks.length S.cells hs.lo hs.hi (by rw [hs.n])
  have b := bad_at (k + 0) .shr S.bs [] (by simp) x hx []
  have bb : run T (k + 4) i_bad_message [share (.lst .shr [x]), .lst .shr (eI S.bs)] = some (.int 0, [none, none]) := by
    have b2 := bad_at (k + 0) .shr S.bs [] (by simp) (share x) (fun k => by rw [share_share]; exact hx k) []
    simpa using b2
  obtain ⟨c1, c2⟩ := check_messages_x (k + 4) (.lst .shr [x]) S.bs 0 bb
  have r : Rs (k + 6) i_script_hear [eS .shr S, eStand s, share x] ⟨sNoMessage, some (sIndex, .int 0)⟩ [none, none, none] := by
    unfold Rs
    simp only [sh_lst] at c1 c2
    simp at c1 c2
    rw [r_script_hear, x_script_hear, runFn_eq rfl, runFnX_eq rfl]
    simp [f_script_hear, b_script_hear, sh_k, sh_m, sh_b, sg_k, sg_m, sg_b, e1, c1, c2]
  obtain ⟨r1, r2⟩ := r
  rw [r_l_asked, runFn_eq rfl]
  simp [f_l_asked, b_l_asked, p_l_asked_t1, r1, r2, tNoMs]
theorem asked_ok (k : Nat) (S : SD) (h : S.Ok) (s m : Int × List Int) (hs : SStand S s) (hm : MsgOk S.bs m) : run T (k + 7) i_l_asked [eS .shr S, eStand s, eMsg m] = some (tTold, [none, none, none]) := by
  have e := script_hear_ok k S h s m hs hm
  rw [r_l_asked, runFn_eq rfl]
  simp [f_l_asked, b_l_asked, p_l_asked_t1, e, tTold]
end K24

namespace K24
open FL
/-! A8: the law. -/
@[simp] theorem okk_told : PySem.PyData.strOk (PySem.Str.ofString "told") = true := by decide +kernel
@[simp] theorem okk_b : PySem.PyData.strOk (PySem.Str.ofString "burdens") = true := by decide +kernel
@[simp] theorem okk_c : PySem.PyData.strOk (PySem.Str.ofString "cells") = true := by decide +kernel
@[simp] theorem okk_k : PySem.PyData.strOk (PySem.Str.ofString "blocks") = true := by decide +kernel
@[simp] theorem okk_s : PySem.PyData.strOk (PySem.Str.ofString "shows") = true := by decide +kernel
@[simp] theorem okk_n : PySem.PyData.strOk (PySem.Str.ofString "none") = true := by decide +kernel
@[simp] theorem okk_ns : PySem.PyData.strOk sNoStand = true := by decide +kernel
@[simp] theorem okk_nm : PySem.PyData.strOk sNoMessage = true := by decide +kernel
def tLab (s : PySem.Str) : D := .tup [.str s, .bl true, .bl false]
theorem qTold : eqD tTold tTold = some true := by simp [tTold, eqD, toP, toP.toPs, PySem.SeqAt.shaped, PySem.PyData.canLay0, PySem.PyData.canLayAll0, PySem.PyData.depth, PySem.PyData.depthAll, PySem.PyData.eqv, PySem.PyData.eqvAll]
theorem qSt : eqD tNoSt tNoSt = some true := by simp [tNoSt, eqD, toP, toP.toPs, PySem.SeqAt.shaped, PySem.PyData.canLay0, PySem.PyData.canLayAll0, PySem.PyData.depth, PySem.PyData.depthAll, PySem.PyData.eqv, PySem.PyData.eqvAll]
theorem qMs : eqD tNoMs tNoMs = some true := by simp [tNoMs, eqD, toP, toP.toPs, PySem.SeqAt.shaped, PySem.PyData.canLay0, PySem.PyData.canLayAll0, PySem.PyData.depth, PySem.PyData.depthAll, PySem.PyData.eqv, PySem.PyData.eqvAll]
theorem qLab (s : PySem.Str) (h : PySem.PyData.strOk s = true) : eqD (tLab s) (tLab s) = some true := by simp [tLab, eqD, toP, toP.toPs, PySem.SeqAt.shaped, PySem.PyData.canLay0, PySem.PyData.canLayAll0, PySem.PyData.depth, PySem.PyData.depthAll, PySem.PyData.eqv, PySem.PyData.eqvAll, h]
theorem qStr (s t : PySem.Str) (h : PySem.PyData.strOk s = true) (h' : PySem.PyData.strOk t = true) : eqD (.str s) (.str t) = some (s == t) := by simp [eqD, toP, toP.toPs, PySem.SeqAt.shaped, PySem.PyData.canLay0, PySem.PyData.canLayAll0, PySem.PyData.depth, PySem.PyData.depthAll, PySem.PyData.eqv, PySem.PyData.eqvAll, h, h']
theorem nq_b : (PySem.Str.ofString "burdens" == PySem.Str.ofString "none") = false := by decide +kernel
theorem nq_c : (PySem.Str.ofString "cells" == PySem.Str.ofString "none") = false := by decide +kernel
theorem nq_k : (PySem.Str.ofString "blocks" == PySem.Str.ofString "none") = false := by decide +kernel
theorem nq_s : (PySem.Str.ofString "shows" == PySem.Str.ofString "none") = false := by decide +kernel
theorem bad_cells (v : Int) (h0 : 0 ≤ v) (h6 : v < 6) : ∃ e, L2.atI [D.int 0, .int 4, .bl true, .lst .own [.int 1], .non, .int (-1)] v = some e ∧ NotCells (share e) := by
  have fx : ∀ e, flatD e = true → ixI 4 e = false → NotCells e := fun e h1 h2 => ⟨flat_share h1, .inl fun k => by rw [← h2]; exact is_index_flat k e h1 4⟩
  rcases (by omega : v = 0 ∨ v = 1 ∨ v = 2 ∨ v = 3 ∨ v = 4 ∨ v = 5) with rfl | rfl | rfl | rfl | rfl | rfl
  · exact ⟨_, atI_nat _ 0, by simp; exact ⟨by simp, .inr rfl⟩⟩
  · exact ⟨_, atI_nat _ 1, by simp; exact fx _ rfl (by simp [ixI])⟩
  · exact ⟨_, atI_nat _ 2, by simp; exact fx _ rfl (by simp [ixI])⟩
  · refine ⟨_, atI_nat _ 3, by simp, .inl fun k => ?_⟩
    have ii : run T (k + 1) i_is_integer [.lst .shr [.int 1]] = some (.bl false, [none]) := by
      rw [r_is_integer, runFn_eq rfl]; simp [f_is_integer, b_is_integer]
    rw [r_is_index, runFn_eq rfl]
    simp [f_is_index, b_is_index, ii]
  · exact ⟨_, atI_nat _ 4, by simp; exact fx _ rfl (by simp [ixI])⟩
  · exact ⟨_, atI_nat _ 5, by simp; exact fx _ rfl (by simp [ixI])⟩
theorem bad_burdens (v : Int) (h0 : 0 ≤ v) (h7 : v < 7) : ∃ e, L2.atI [D.lst .own [], .lst .own [.int 0, .int 0, .int 0, .int 0], .lst .own [.int 3], .lst .own [.int 0, .bl true], .tup [.int 0], .non, .lst .own [.int (-1), .int 0]] v = some e ∧ Rw (share e) ∧ burdS (share e) = false := by
  have fl : ∀ es, (∀ e ∈ es, flatD e = true) → Rw (share (.lst .own es)) := fun es h => by rw [sh_lst, flat_shares h]; exact .inl ⟨es, .inl rfl, h⟩
  rcases (by omega : v = 0 ∨ v = 1 ∨ v = 2 ∨ v = 3 ∨ v = 4 ∨ v = 5 ∨ v = 6) with rfl | rfl | rfl | rfl | rfl | rfl | rfl
  · exact ⟨_, atI_nat _ 0, fl _ (by simp), by simp [burdS]⟩
  · exact ⟨_, atI_nat _ 1, fl _ (by simp [flatD]), by simp [burdS]⟩
  · exact ⟨_, atI_nat _ 2, fl _ (by simp [flatD]), by simp [burdS, ixI]⟩
  · exact ⟨_, atI_nat _ 3, fl _ (by simp [flatD]), by simp [burdS, ixI]⟩
  · exact ⟨_, atI_nat _ 4, .inl ⟨[.int 0], .inr (by simp), by simp [flatD]⟩, by simp [burdS]⟩
  · exact ⟨_, atI_nat _ 5, by simp; exact .inr rfl, by simp [burdS]⟩
  · exact ⟨_, atI_nat _ 6, fl _ (by simp [flatD]), by simp [burdS, ixI]⟩
abbrev rS (S : SD) (x0 : Option D) (P : Pool) (sp lab A B C D' : D) (x11 : Option D) : Env := [x0, some (ePS .shr .shr S), some (eS .shr S), some (eP P), some (.lst .own [A, B, C, D']), some sp, some lab, none, none, none, none, x11, none, none, none]
/-- the questions behind the creation -/
theorem tail_q (n : Nat) (S : SD) (h : S.Ok) (P : Pool) (x0 x4 x5 x6 x7 x8 x11 : Option D) : ∃ ρ, exSs (G (n + 8)) (dropS 13 b_law) [x0, some (ePS .shr .shr S), some (eS .shr S), some (eP P), x4, x5, x6, x7, x8, none, none, x11, none, none, none] = some (.rt (.bl true) ρ) := by
  obtain ⟨s, p1, e1, hs⟩ := sstand_ok (n + 5) P S h
  obtain ⟨m, p2, e2, hm⟩ := smessage_ok (n + 5) p1 S h
  obtain ⟨d, p3, e3, hd⟩ := bad_stand_ok (n + 6) S h s hs p2
  obtain ⟨x, p4, e4, hx⟩ := bad_msg_ok (n + 6) S h m hm p3
  have hd' : NotStand (share d) S.blocks.length S.cells := fun k => by rw [share_share]; exact hd k
  have hx' : NotMsg (share x) S.bs := fun k => by rw [share_share]; exact hx k
  have a1 := asked_st (n + 2) S (share d) (share x) hd'
  have a2 := asked_st (n + 2) S (share d) (eStand m) hd'
  have a3 := asked_ms (n + 1) S h s hs (share x) hx'
  have a4 := asked_ok (n + 1) S h s m hs hm
  have ss : share (eStand s) = eStand s := by simp [eStand, shares_ints]
  have sm : share (eStand m) = eStand m := by simp [eStand, shares_ints]
  have sp : share (ePS .shr .shr S) = ePS .shr .shr S := by simp
  have sS : share (eS .shr S) = eS .shr S := by simp [eS, shares_ints]
  have sd : share (share d) = share d := share_share d
  have sx : share (share x) = share x := share_share x
  have i0 : idxD (ePS .shr .shr S) (.int 0) = some (.lst .shr (eI S.bs)) := by simp [ePS, shares_ints]
  have i2 : idxD (ePS .shr .shr S) (.int 2) = some (.lst .shr (eBs .shr S.blocks)) := by simp [ePS, shares_ints]
  have q1 := qSt
  have q2 := qMs
  have q3 := qTold
  simp only [tNoSt, tNoMs, tTold] at *
  simp [b_law, dropS, e1, e2, e3, e4, ss, sm, sp, sS, sd, sx, i0, i2, eI_len, a1, a2, a3, a4, q1, q2, q3]
theorem i40 : L2.ixN 4 0 = some 0 := ixN_ok 4 0 (by omega)
theorem i41 : L2.ixN 4 1 = some 1 := ixN_ok 4 1 (by omega)
theorem i42 : L2.ixN 4 2 = some 2 := ixN_ok 4 2 (by omega)
theorem i43 : L2.ixN 4 3 = some 3 := ixN_ok 4 3 (by omega)
theorem tail_bad (n : Nat) (S : SD) (h : S.Ok) (x0 x11 : Option D) (P : Pool) (sp A B C D' : D) (lab : PySem.Str) (hlab : PySem.PyData.strOk lab = true) (hne : (lab == PySem.Str.ofString "none") = false)
    (hx : Rs (n + 8) i_Scriptu_initu [o0, share A, share B, share C, share D'] ⟨sNoS, some (sPlace, .str lab)⟩ [some o0, none, none, none, none]) : ∃ ρ, exSs (G (n + 8)) (dropS 10 b_law) (rS S x0 P sp (.str lab) A B C D' x11) = some (.rt (.bl true) ρ) := by
  obtain ⟨h1, h2⟩ := hx
  have q1 := qStr lab (PySem.Str.ofString "none") hlab okk_n
  rw [hne] at q1
  have q2 := qLab lab hlab
  simp only [tLab] at q2
  have st : ∃ x4 x5 x6 x7 x8, exSs (G (n + 8)) (takeS 3 (dropS 10 b_law)) (rS S x0 P sp (.str lab) A B C D' x11) = some (.nx [x0, some (ePS .shr .shr S), some (eS .shr S), some (eP P), x4, x5, x6, x7, x8, none, none, x11, none, none, none]) := by
    simp [b_law, takeS, dropS, rS, p_law_t1, i40, i41, i42, i43, h1, h2, q1, q2]
  obtain ⟨x4, x5, x6, x7, x8, e⟩ := st
  obtain ⟨ρ, e2⟩ := tail_q n S h P x0 x4 x5 x6 x7 x8 x11
  exact ⟨ρ, ss_two 3 (b := dropS 10 b_law) e e2⟩
theorem tail_good (n : Nat) (S : SD) (h : S.Ok) (x0 x11 : Option D) (P : Pool) (sp A B C D' : D) (hA : share A = .lst .shr (eI S.bs)) (hB : share B = .int S.cells) (hC : share C = .lst .shr (eBs .shr S.blocks)) (hD : share D' = .lst .shr (eShows .shr S.shows)) :
    ∃ ρ, exSs (G (n + 8)) (dropS 10 b_law) (rS S x0 P sp (.str (PySem.Str.ofString "none")) A B C D' x11) = some (.rt (.bl true) ρ) := by
  have i1 := sinit_ok (n + 1) S h
  have q1 := qStr (PySem.Str.ofString "none") (PySem.Str.ofString "none") okk_n okk_n
  have q2 := qTold
  simp only [tTold] at q2
  have st : ∃ x4 x5 x6 x7 x8, exSs (G (n + 8)) (takeS 3 (dropS 10 b_law)) (rS S x0 P sp (.str (PySem.Str.ofString "none")) A B C D' x11) = some (.nx [x0, some (ePS .shr .shr S), some (eS .shr S), some (eP P), x4, x5, x6, x7, x8, none, none, x11, none, none, none]) := by
    simp [b_law, takeS, dropS, rS, p_law_t1, i40, i41, i42, i43, hA, hB, hC, hD, i1, q1, q2]
  obtain ⟨x4, x5, x6, x7, x8, e⟩ := st
  obtain ⟨ρ, e2⟩ := tail_q n S h P x0 x4 x5 x6 x7 x8 x11
  exact ⟨ρ, ss_two 3 (b := dropS 10 b_law) e e2⟩
end K24

namespace K24
open FL
/-! A9: the law whole. -/
theorem law_run (n : Nat) (ns : List Int) : run T (n + 9) i_law [.lst .frz (eI ns)] = some (.bl true, [none]) := by
  obtain ⟨p0, e0⟩ := pool_ok (n + 7) .frz ns 0
  obtain ⟨p1, e1⟩ := pool_ok (n + 7) .frz ns 1
  obtain ⟨p2, e2⟩ := pool_ok (n + 7) .frz ns 2
  obtain ⟨p3, e3⟩ := pool_ok (n + 7) .frz ns 3
  rw [show ((0 : Nat) : Int) = 0 from rfl] at e0
  rw [show ((1 : Nat) : Int) = 1 from rfl] at e1
  rw [show ((2 : Nat) : Int) = 2 from rfl] at e2
  rw [show ((3 : Nat) : Int) = 3 from rfl] at e3
  obtain ⟨S, p5, g, ep, hg, h⟩ := script_parts_ok (n + 5) p0
  have ls := l_script_ok n S h
  have cp := blocks_copy_ok (n + 6) S h
  obtain ⟨s0, q1, d0, ga0, la0⟩ := draw_ok (n + 7) p1 2 (by omega) (by omega)
  obtain ⟨s1, q2, d1, ga1, la1⟩ := draw_ok (n + 7) q1 2 (by omega) (by omega)
  obtain ⟨s2, q3, d2, ga2, la2⟩ := draw_ok (n + 7) q2 2 (by omega) (by omega)
  obtain ⟨s3, q4, d3, ga3, la3⟩ := draw_ok (n + 7) q3 2 (by omega) (by omega)
  have r4 := rngO_nat 4 4 rfl (by omega)
  have u4 : rngL 0 4 = [.int 0, .int 1, .int 2, .int 3] := by simp [rngL, List.range, List.range.loop]
  have fz : Fl.frz.sh = Fl.frz := rfl
  have n3 := h.n3
  have hsh := h.sh
  obtain ⟨D0, hD0⟩ : ∃ D0, D0 = S.shows.map fun s => D.lst .own (s.map (eRow .shr)) := ⟨_, rfl⟩
  have sD0 : shares D0 = eShows .shr S.shows := by
    rw [hD0, shares_eq, List.map_map, eShows]
    apply List.map_congr_left
    intro s _
    simp [eShow, shares_rows]
  have cS : ∀ (Γ : Ctx) (ρ : Env), ρ[14]? = some none → compL (bindT (.name 14)) (evC Γ .no) (evE Γ p_law_c3) [14] (eShows .shr S.shows) ρ [] = some (D0, ρ) := fun Γ ρ hρ => by
    have hl := (List.getElem?_eq_some_iff.mp hρ).1
    rw [hD0]
    refine comp1 hρ (eShow .shr) (fun s => D.lst .own (s.map (eRow .shr))) S.shows (by simp; omega) fun s hs => ⟨some (eShow .shr s), ?_⟩
    have gs : getS (ρ.set 14 (some (eShow .shr s))) 14 = some (eShow .shr s) := getS_set_eq hl
    have sr := shares_rows .shr s
    simp only [show Fl.shr.sh = .shr from rfl] at sr
    simp only [eShow] at *
    simp [p_law_c3, gs, sr]
  have i1 : idxD (ePS .shr .shr S) (.int 1) = some (.int S.cells) := by simp [ePS]
  have i0 : idxD (ePS .shr .shr S) (.int 0) = some (.lst .shr (eI S.bs)) := by simp [ePS, shares_ints]
  have i2 : idxD (ePS .shr .shr S) (.int 2) = some (.lst .shr (eBs .shr S.blocks)) := by simp [ePS]
  have i3 : idxD (ePS .shr .shr S) (.int 3) = some (.lst .shr (eShows .shr S.shows)) := by simp [ePS]
  have sS : share (eS .own S) = eS .shr S := by simp [eS, shares_ints]
  have st6 : exSs (G (n + 8)) (takeS 6 b_law) [some (.lst .frz (eI ns)), none, none, none, none, none, none, none, none, none, none, none, none, none, none] = some (.nx (rS S (some (.lst .frz (eI ns))) q4 (.lst .shr [.int s0, .int s1, .int s2, .int s3]) (.str (PySem.Str.ofString "none")) (.lst .own (eI S.bs)) (.int S.cells) (.lst .own (eBs .own S.blocks)) (.lst .own D0) none)) := by
    have sp0 : share (ePS .own g S) = ePS .shr .shr S := by simp [hg]
    have sp1 : share (ePS .shr .shr S) = ePS .shr .shr S := by simp
    simp [b_law, takeS, fz, shares_ints, e0, ep, sp0, sp1, ls, sS, e1, i0, i1, i2, i3, cp, cS, r4, u4, compL, p_law_c2, d0, d1, d2, d3, rS]
  have at0 := atI_0 (D.int s0) [.int s1, .int s2, .int s3]
  have at1 := atI_1 (D.int s0) (.int s1) [.int s2, .int s3]
  have at2 := atI_2 (D.int s0) (.int s1) (.int s2) [.int s3]
  have at3 := atI_3 (D.int s0) (.int s1) (.int s2) (.int s3) []
  have sp1 : share (ePS .shr .shr S) = ePS .shr .shr S := by simp
  have st7 : ∃ lab D', exSs (G (n + 8)) (takeS 1 (dropS 6 b_law)) (rS S (some (.lst .frz (eI ns))) q4 (.lst .shr [.int s0, .int s1, .int s2, .int s3]) (.str (PySem.Str.ofString "none")) (.lst .own (eI S.bs)) (.int S.cells) (.lst .own (eBs .own S.blocks)) (.lst .own D0) none) =
      some (.nx (rS S (some (.lst .frz (eI ns))) q4 (.lst .shr [.int s0, .int s1, .int s2, .int s3]) (.str lab) (.lst .own (eI S.bs)) (.int S.cells) (.lst .own (eBs .own S.blocks)) D' none)) ∧ ((lab = PySem.Str.ofString "none" ∧ share D' = .lst .shr (eShows .shr S.shows)) ∨ (lab = PySem.Str.ofString "shows" ∧ VS (share D') ∧ showsS S.blocks.length S.cells (share D') = false)) := by
    by_cases q : s3 = 1
    · subst q
      obtain ⟨v, P, e, hv, hf⟩ := bad_shows_ok (n + 6) p2 S.shows S.cells (by rw [hsh]; exact h.n1) (by rw [hsh]; exact n3) h.c3
      rw [hsh] at hf
      exact ⟨_, v, by simp [rS, b_law, takeS, dropS, eqD_int, at3, i43, sD0, fz, shares_ints, e2, sp1, i1, e], .inr ⟨rfl, hv, hf⟩⟩
    · exact ⟨_, .lst .own D0, by simp [rS, b_law, takeS, dropS, eqD_int, at3, q], .inl ⟨rfl, by simp [sD0]⟩⟩
  obtain ⟨lab, D', e7, hD⟩ := st7
  have st8 : ∃ x0 lab' C, exSs (G (n + 8)) (takeS 1 (dropS 7 b_law)) (rS S (some (.lst .frz (eI ns))) q4 (.lst .shr [.int s0, .int s1, .int s2, .int s3]) (.str lab) (.lst .own (eI S.bs)) (.int S.cells) (.lst .own (eBs .own S.blocks)) D' none) =
      some (.nx (rS S x0 q4 (.lst .shr [.int s0, .int s1, .int s2, .int s3]) (.str lab') (.lst .own (eI S.bs)) (.int S.cells) C D' none)) ∧ ((lab' = lab ∧ share C = .lst .shr (eBs .shr S.blocks)) ∨ (lab' = PySem.Str.ofString "blocks" ∧ VB (share C) ∧ blocksS S.cells S.bs (share C) = false)) := by
    by_cases q : s2 = 1
    · subst q
      obtain ⟨v, P, e, hv, hf⟩ := bad_blocks_ok (n + 5) p3 S h
      exact ⟨none, _, v, by simp [rS, b_law, takeS, dropS, eqD_int, at2, i42, fz, shares_ints, e3, sp1, e], .inr ⟨rfl, hv, hf⟩⟩
    · exact ⟨_, _, .lst .own (eBs .own S.blocks), by simp [rS, b_law, takeS, dropS, eqD_int, at2, q]; rfl, .inl ⟨rfl, by simp⟩⟩
  obtain ⟨x0, lab', C, e8, hC⟩ := st8
  have st9 : ∃ P lab'' B, exSs (G (n + 8)) (takeS 1 (dropS 8 b_law)) (rS S x0 q4 (.lst .shr [.int s0, .int s1, .int s2, .int s3]) (.str lab') (.lst .own (eI S.bs)) (.int S.cells) C D' none) =
      some (.nx (rS S x0 P (.lst .shr [.int s0, .int s1, .int s2, .int s3]) (.str lab'') (.lst .own (eI S.bs)) B C D' none)) ∧ ((lab'' = lab' ∧ share B = .int S.cells) ∨ (lab'' = PySem.Str.ofString "cells" ∧ NotCells (share B))) := by
    by_cases q : s1 = 1
    · subst q
      obtain ⟨v, P, e, h0, h6⟩ := draw_ok (n + 7) q4 6 (by omega) (by omega)
      obtain ⟨d, ed, hd⟩ := bad_cells v h0 h6
      exact ⟨P, _, share d, by simp [rS, b_law, takeS, dropS, eqD_int, at1, i41, e, ed], .inr ⟨rfl, by rw [share_share]; exact hd⟩⟩
    · exact ⟨q4, _, .int S.cells, by simp [rS, b_law, takeS, dropS, eqD_int, at1, q], .inl ⟨rfl, by simp⟩⟩
  obtain ⟨P9, lab'', B, e9, hB⟩ := st9
  have st10 : ∃ P lab3 A x11, exSs (G (n + 8)) (takeS 1 (dropS 9 b_law)) (rS S x0 P9 (.lst .shr [.int s0, .int s1, .int s2, .int s3]) (.str lab'') (.lst .own (eI S.bs)) B C D' none) =
      some (.nx (rS S x0 P (.lst .shr [.int s0, .int s1, .int s2, .int s3]) (.str lab3) A B C D' x11)) ∧ ((lab3 = lab'' ∧ share A = .lst .shr (eI S.bs)) ∨ (lab3 = PySem.Str.ofString "burdens" ∧ Rw (share A) ∧ burdS (share A) = false)) := by
    by_cases q : s0 = 1
    · subst q
      obtain ⟨v, P, e, h0, h6⟩ := draw_ok (n + 7) P9 7 (by omega) (by omega)
      obtain ⟨d, ed, rd, hd⟩ := bad_burdens v h0 h6
      exact ⟨P, _, share d, none, by simp [rS, b_law, takeS, dropS, eqD_int, at0, i40, e, ed], .inr ⟨rfl, by rw [share_share]; exact rd, by rw [share_share]; exact hd⟩⟩
    · exact ⟨P9, _, .lst .own (eI S.bs), none, by simp [rS, b_law, takeS, dropS, eqD_int, at0, q], .inl ⟨rfl, by simp [shares_ints]⟩⟩
  obtain ⟨P10, lab3, A, x11, e10, hA⟩ := st10
  have tail : ∃ ρ, exSs (G (n + 8)) (dropS 10 b_law) (rS S x0 P10 (.lst .shr [.int s0, .int s1, .int s2, .int s3]) (.str lab3) A B C D' x11) = some (.rt (.bl true) ρ) := by
    rcases hA with ⟨rfl, hA⟩ | ⟨rfl, hv, hf⟩
    · rcases hB with ⟨rfl, hB⟩ | ⟨rfl, hv⟩
      · rcases hC with ⟨rfl, hC⟩ | ⟨rfl, hv, hf⟩
        · rcases hD with ⟨rfl, hD⟩ | ⟨rfl, hv, hf⟩
          · exact tail_good n S h x0 x11 P10 _ _ _ _ _ hA hB hC hD
          · exact tail_bad n S h x0 x11 P10 _ _ _ _ _ _ okk_s nq_s (by rw [hA, hB, hC]; exact init_s (n + 1) S h _ hv hf)
        · exact tail_bad n S h x0 x11 P10 _ _ _ _ _ _ okk_k nq_k (by rw [hA, hB]; exact init_k (n + 1) S h _ _ hv hf)
      · exact tail_bad n S h x0 x11 P10 _ _ _ _ _ _ okk_c nq_c (by rw [hA]; exact init_c (n + 1) S h _ _ _ hv)
    · exact tail_bad n S h x0 x11 P10 _ _ _ _ _ _ okk_b nq_b (init_b (n + 1) _ _ _ _ hv hf)
  obtain ⟨ρ, et⟩ := tail
  have k9 := ss_two 1 (b := dropS 9 b_law) e10 et
  have k8 := ss_two 1 (b := dropS 8 b_law) e9 k9
  have k7 := ss_two 1 (b := dropS 7 b_law) e8 k8
  have k6 := ss_two 1 (b := dropS 6 b_law) e7 k7
  have key := ss_two 6 (b := b_law) st6 k6
  rw [r_law, runFn_eq rfl]
  simp [f_law, shares_ints, fz, key]
theorem law_true (ns : List Int) (h : ns.length ≤ 63) : ∃ r, run T 21 i_law [.lst .frz (ns.map D.int)] = some r ∧ r.1 = .bl true := ⟨_, law_run 12 ns, rfl⟩
end K24

namespace K24
open PySem PySem.Spec PyProof.Rows L2 FL
def d_is_integer : He.DefD := ⟨((Str.ofString "is_integer"), none), (Str.ofString "is_integer"), (Str.ofString "is_integer"), defArgs s_is_integer, defBody s_is_integer, defScope s_is_integer, [], []⟩
def d_is_index : He.DefD := ⟨((Str.ofString "is_index"), none), (Str.ofString "is_index"), (Str.ofString "is_index"), defArgs s_is_index, defBody s_is_index, defScope s_is_index, [], []⟩
def d_is_vector : He.DefD := ⟨((Str.ofString "is_vector"), none), (Str.ofString "is_vector"), (Str.ofString "is_vector"), defArgs s_is_vector, defBody s_is_vector, defScope s_is_vector, [], []⟩
def d_is_row : He.DefD := ⟨((Str.ofString "is_row"), none), (Str.ofString "is_row"), (Str.ofString "is_row"), defArgs s_is_row, defBody s_is_row, defScope s_is_row, [], []⟩
def d_are_rows : He.DefD := ⟨((Str.ofString "are_rows"), none), (Str.ofString "are_rows"), (Str.ofString "are_rows"), defArgs s_are_rows, defBody s_are_rows, defScope s_are_rows, [], []⟩
def d_are_integers : He.DefD := ⟨((Str.ofString "are_integers"), none), (Str.ofString "are_integers"), (Str.ofString "are_integers"), defArgs s_are_integers, defBody s_are_integers, defScope s_are_integers, [], []⟩
def d_is_stand : He.DefD := ⟨((Str.ofString "is_stand"), none), (Str.ofString "is_stand"), (Str.ofString "is_stand"), defArgs s_is_stand, defBody s_is_stand, defScope s_is_stand, [], []⟩
def d_check_stand : He.DefD := ⟨((Str.ofString "check_stand"), none), (Str.ofString "check_stand"), (Str.ofString "check_stand"), defArgs s_check_stand, defBody s_check_stand, defScope s_check_stand, [], []⟩
def d_is_message : He.DefD := ⟨((Str.ofString "is_message"), none), (Str.ofString "is_message"), (Str.ofString "is_message"), defArgs s_is_message, defBody s_is_message, defScope s_is_message, [], []⟩
def d_bad_message : He.DefD := ⟨((Str.ofString "bad_message"), none), (Str.ofString "bad_message"), (Str.ofString "bad_message"), defArgs s_bad_message, defBody s_bad_message, defScope s_bad_message, [], []⟩
def d_check_messages : He.DefD := ⟨((Str.ofString "check_messages"), none), (Str.ofString "check_messages"), (Str.ofString "check_messages"), defArgs s_check_messages, defBody s_check_messages, defScope s_check_messages, [], []⟩
def d_are_kinds : He.DefD := ⟨((Str.ofString "are_kinds"), none), (Str.ofString "are_kinds"), (Str.ofString "are_kinds"), defArgs s_are_kinds, defBody s_are_kinds, defScope s_are_kinds, [], []⟩
def d_are_burdens : He.DefD := ⟨((Str.ofString "are_burdens"), none), (Str.ofString "are_burdens"), (Str.ofString "are_burdens"), defArgs s_are_burdens, defBody s_are_burdens, defScope s_are_burdens, [], []⟩
def d_are_shows : He.DefD := ⟨((Str.ofString "are_shows"), none), (Str.ofString "are_shows"), (Str.ofString "are_shows"), defArgs s_are_shows, defBody s_are_shows, defScope s_are_shows, [], []⟩
def d_copied : He.DefD := ⟨((Str.ofString "copied"), none), (Str.ofString "copied"), (Str.ofString "copied"), defArgs s_copied, defBody s_copied, defScope s_copied, [], []⟩
def d_dot : He.DefD := ⟨((Str.ofString "dot"), none), (Str.ofString "dot"), (Str.ofString "dot"), defArgs s_dot, defBody s_dot, defScope s_dot, [], []⟩
def d_is_statement : He.DefD := ⟨((Str.ofString "is_statement"), none), (Str.ofString "is_statement"), (Str.ofString "is_statement"), defArgs s_is_statement, defBody s_is_statement, defScope s_is_statement, [], []⟩
def d_is_block : He.DefD := ⟨((Str.ofString "is_block"), none), (Str.ofString "is_block"), (Str.ofString "is_block"), defArgs s_is_block, defBody s_is_block, defScope s_is_block, [], []⟩
def d_are_blocks : He.DefD := ⟨((Str.ofString "are_blocks"), none), (Str.ofString "are_blocks"), (Str.ofString "are_blocks"), defArgs s_are_blocks, defBody s_are_blocks, defScope s_are_blocks, [], []⟩
def d_copied_statement : He.DefD := ⟨((Str.ofString "copied_statement"), none), (Str.ofString "copied_statement"), (Str.ofString "copied_statement"), defArgs s_copied_statement, defBody s_copied_statement, defScope s_copied_statement, [], []⟩
def d_Scriptu_initu : He.DefD := ⟨((Str.ofString "Script"), some (Str.ofString "__init__")), (Str.ofString "__init__"), (Str.ofString "Script.__init__"), defArgs s_Scriptu_initu, defBody s_Scriptu_initu, defScope s_Scriptu_initu, [], []⟩
def d_script_hear : He.DefD := ⟨((Str.ofString "script_hear"), none), (Str.ofString "script_hear"), (Str.ofString "script_hear"), defArgs s_script_hear, defBody s_script_hear, defScope s_script_hear, [], []⟩
def d_l_pool : He.DefD := ⟨((Str.ofString "_law_pool"), none), (Str.ofString "_law_pool"), (Str.ofString "_law_pool"), defArgs s_l_pool, defBody s_l_pool, defScope s_l_pool, [], []⟩
def d_l_draw : He.DefD := ⟨((Str.ofString "_law_draw"), none), (Str.ofString "_law_draw"), (Str.ofString "_law_draw"), defArgs s_l_draw, defBody s_l_draw, defScope s_l_draw, [], []⟩
def d_l_is_integer : He.DefD := ⟨((Str.ofString "_law_is_integer"), none), (Str.ofString "_law_is_integer"), (Str.ofString "_law_is_integer"), defArgs s_l_is_integer, defBody s_l_is_integer, defScope s_l_is_integer, [], []⟩
def d_l_number : He.DefD := ⟨((Str.ofString "_law_number"), none), (Str.ofString "_law_number"), (Str.ofString "_law_number"), defArgs s_l_number, defBody s_l_number, defScope s_l_number, [], []⟩
def d_l_statement : He.DefD := ⟨((Str.ofString "_law_statement"), none), (Str.ofString "_law_statement"), (Str.ofString "_law_statement"), defArgs s_l_statement, defBody s_l_statement, defScope s_l_statement, [], []⟩
def d_l_script_parts : He.DefD := ⟨((Str.ofString "_law_script_parts"), none), (Str.ofString "_law_script_parts"), (Str.ofString "_law_script_parts"), defArgs s_l_script_parts, defBody s_l_script_parts, defScope s_l_script_parts, [], []⟩
def d_l_blocks_copy : He.DefD := ⟨((Str.ofString "_law_blocks_copy"), none), (Str.ofString "_law_blocks_copy"), (Str.ofString "_law_blocks_copy"), defArgs s_l_blocks_copy, defBody s_l_blocks_copy, defScope s_l_blocks_copy, [], []⟩
def d_l_copied : He.DefD := ⟨((Str.ofString "_law_copied"), none), (Str.ofString "_law_copied"), (Str.ofString "_law_copied"), defArgs s_l_copied, defBody s_l_copied, defScope s_l_copied, [], []⟩
def d_l_script : He.DefD := ⟨((Str.ofString "_law_script"), none), (Str.ofString "_law_script"), (Str.ofString "_law_script"), defArgs s_l_script, defBody s_l_script, defScope s_l_script, [], []⟩
def d_l_script_message : He.DefD := ⟨((Str.ofString "_law_script_message"), none), (Str.ofString "_law_script_message"), (Str.ofString "_law_script_message"), defArgs s_l_script_message, defBody s_l_script_message, defScope s_l_script_message, [], []⟩
def d_l_script_stand : He.DefD := ⟨((Str.ofString "_law_script_stand"), none), (Str.ofString "_law_script_stand"), (Str.ofString "_law_script_stand"), defArgs s_l_script_stand, defBody s_l_script_stand, defScope s_l_script_stand, [], []⟩
def d_l_bad_stand : He.DefD := ⟨((Str.ofString "_law_bad_stand"), none), (Str.ofString "_law_bad_stand"), (Str.ofString "_law_bad_stand"), defArgs s_l_bad_stand, defBody s_l_bad_stand, defScope s_l_bad_stand, [], []⟩
def d_l_bad_message : He.DefD := ⟨((Str.ofString "_law_bad_message"), none), (Str.ofString "_law_bad_message"), (Str.ofString "_law_bad_message"), defArgs s_l_bad_message, defBody s_l_bad_message, defScope s_l_bad_message, [], []⟩
def d_l_bad_statement : He.DefD := ⟨((Str.ofString "_law_bad_statement"), none), (Str.ofString "_law_bad_statement"), (Str.ofString "_law_bad_statement"), defArgs s_l_bad_statement, defBody s_l_bad_statement, defScope s_l_bad_statement, [], []⟩
def d_l_bad_blocks : He.DefD := ⟨((Str.ofString "_law_bad_blocks"), none), (Str.ofString "_law_bad_blocks"), (Str.ofString "_law_bad_blocks"), defArgs s_l_bad_blocks, defBody s_l_bad_blocks, defScope s_l_bad_blocks, [], []⟩
def d_l_bad_shows : He.DefD := ⟨((Str.ofString "_law_bad_shows"), none), (Str.ofString "_law_bad_shows"), (Str.ofString "_law_bad_shows"), defArgs s_l_bad_shows, defBody s_l_bad_shows, defScope s_l_bad_shows, [], []⟩
def d_l_asked : He.DefD := ⟨((Str.ofString "_law_asked"), none), (Str.ofString "_law_asked"), (Str.ofString "_law_asked"), defArgs s_l_asked, defBody s_l_asked, defScope s_l_asked, [], []⟩
def d_law : He.DefD := ⟨((Str.ofString "law"), none), (Str.ofString "law"), (Str.ofString "law"), defArgs s_law, defBody s_law, defScope s_law, [], []⟩
def d_xNoListener : He.DefD := ⟨((Str.ofString "NoListener"), some (Str.ofString "__init__")), (Str.ofString "__init__"), (Str.ofString "NoListener.__init__"), defArgs s_xNoListener, defBody s_xNoListener, defScope s_xNoListener, [], []⟩
def d_xNoMessage : He.DefD := ⟨((Str.ofString "NoMessage"), some (Str.ofString "__init__")), (Str.ofString "__init__"), (Str.ofString "NoMessage.__init__"), defArgs s_xNoMessage, defBody s_xNoMessage, defScope s_xNoMessage, [], []⟩
def d_xNoScript : He.DefD := ⟨((Str.ofString "NoScript"), some (Str.ofString "__init__")), (Str.ofString "__init__"), (Str.ofString "NoScript.__init__"), defArgs s_xNoScript, defBody s_xNoScript, defScope s_xNoScript, [], []⟩
def fnL : List He.DefD := [d_is_integer, d_is_index, d_is_vector, d_is_row, d_are_rows, d_are_integers, d_is_stand, d_check_stand, d_is_message, d_bad_message, d_check_messages, d_are_kinds, d_are_burdens, d_are_shows, d_copied, d_dot, d_is_statement, d_is_block, d_are_blocks, d_copied_statement, d_Scriptu_initu, d_script_hear, d_l_pool, d_l_draw, d_l_is_integer, d_l_number, d_l_statement, d_l_script_parts, d_l_blocks_copy, d_l_copied, d_l_script, d_l_script_message, d_l_script_stand, d_l_bad_stand, d_l_bad_message, d_l_bad_statement, d_l_bad_blocks, d_l_bad_shows, d_l_asked, d_law, d_xNoListener, d_xNoMessage, d_xNoScript]
def faL : List He.Fa := faOf T
abbrev R : PySem.W.OpenRow := PySem.W.OpenLaw.row PySem.Challenge.rw_latecomers_k24_refused_scripts
abbrev hk : PySem.W.Hook := He.hookX 4 faL fnL [] [] (xAll T)
def ob (s : PySem.W.SharedT) : He.AlX := He.obsX 4 faL fnL [] [] (xAll T) (HandSHeadRun.getT s)
theorem ob_eq (s : PySem.W.SharedT) : ob s = hk.obs s.abs := He.obsX_eq (HandSHeadRun.getT_eq s)
def loose0 : List Str := [(Str.ofString "LateError"), (Str.ofString "NoListener"), (Str.ofString "NoStand"), (Str.ofString "NoMessage"), (Str.ofString "NoScript"), (Str.ofString "is_integer"), (Str.ofString "is_index"), (Str.ofString "is_vector"), (Str.ofString "is_row"), (Str.ofString "are_rows"), (Str.ofString "are_integers"), (Str.ofString "is_stand"), (Str.ofString "check_stand"), (Str.ofString "is_message"), (Str.ofString "bad_message"), (Str.ofString "check_messages"), (Str.ofString "are_kinds"), (Str.ofString "are_burdens"), (Str.ofString "are_shows"), (Str.ofString "copied"), (Str.ofString "dot"), (Str.ofString "is_statement"), (Str.ofString "is_block"), (Str.ofString "are_blocks"), (Str.ofString "copied_statement"), (Str.ofString "Script"), (Str.ofString "script_hear"), (Str.ofString "_law_pool"), (Str.ofString "_law_draw"), (Str.ofString "_law_is_integer")]
def loose1 : List Str := [(Str.ofString "_law_number"), (Str.ofString "_law_statement"), (Str.ofString "_law_script_parts"), (Str.ofString "_law_blocks_copy"), (Str.ofString "_law_copied"), (Str.ofString "_law_script"), (Str.ofString "_law_script_message"), (Str.ofString "_law_script_stand"), (Str.ofString "_law_bad_stand"), (Str.ofString "_law_bad_message"), (Str.ofString "_law_bad_statement"), (Str.ofString "_law_bad_blocks"), (Str.ofString "_law_bad_shows"), (Str.ofString "_law_asked")]
def looseL : List Str := loose0 ++ loose1
theorem runs (w : World) : HandSHeadRun.RunEq R (PySem.W.view R.prog [49]) hk ob 20000 looseL w := by
  intro os
  kernel_rfl
theorem msT : msChk T = true := by decide +kernel
theorem ocT : ocChk T = true := by decide +kernel
theorem ff_is_integer {K : PySem.W.Frag} (c : He.SaysD faL fnL K) : FnFact T K f_is_integer := by
  obtain ⟨fd, F⟩ := c.def_ 0 (d := d_is_integer) rfl
  exact ⟨_, _, _, _, _, fd, F, FunD.bindsN (ps := f_is_integer.ps) F (fun _ _ _ _ _ _ us hl => match us, hl with | [_], _ => rfl), ck_is_integer⟩
theorem ff_is_index {K : PySem.W.Frag} (c : He.SaysD faL fnL K) : FnFact T K f_is_index := by
  obtain ⟨fd, F⟩ := c.def_ 1 (d := d_is_index) rfl
  exact ⟨_, _, _, _, _, fd, F, FunD.bindsN (ps := f_is_index.ps) F (fun _ _ _ _ _ _ us hl => match us, hl with | [_, _], _ => rfl), ck_is_index⟩
theorem ff_is_vector {K : PySem.W.Frag} (c : He.SaysD faL fnL K) : FnFact T K f_is_vector := by
  obtain ⟨fd, F⟩ := c.def_ 2 (d := d_is_vector) rfl
  exact ⟨_, _, _, _, _, fd, F, FunD.bindsN (ps := f_is_vector.ps) F (fun _ _ _ _ _ _ us hl => match us, hl with | [_, _], _ => rfl), ck_is_vector⟩
theorem ff_is_row {K : PySem.W.Frag} (c : He.SaysD faL fnL K) : FnFact T K f_is_row := by
  obtain ⟨fd, F⟩ := c.def_ 3 (d := d_is_row) rfl
  exact ⟨_, _, _, _, _, fd, F, FunD.bindsN (ps := f_is_row.ps) F (fun _ _ _ _ _ _ us hl => match us, hl with | [_, _], _ => rfl), ck_is_row⟩
theorem ff_are_rows {K : PySem.W.Frag} (c : He.SaysD faL fnL K) : FnFact T K f_are_rows := by
  obtain ⟨fd, F⟩ := c.def_ 4 (d := d_are_rows) rfl
  exact ⟨_, _, _, _, _, fd, F, FunD.bindsN (ps := f_are_rows.ps) F (fun _ _ _ _ _ _ us hl => match us, hl with | [_, _, _], _ => rfl), ck_are_rows⟩
theorem ff_are_integers {K : PySem.W.Frag} (c : He.SaysD faL fnL K) : FnFact T K f_are_integers := by
  obtain ⟨fd, F⟩ := c.def_ 5 (d := d_are_integers) rfl
  exact ⟨_, _, _, _, _, fd, F, FunD.bindsN (ps := f_are_integers.ps) F (fun _ _ _ _ _ _ us hl => match us, hl with | [_, _], _ => rfl), ck_are_integers⟩
theorem ff_is_stand {K : PySem.W.Frag} (c : He.SaysD faL fnL K) : FnFact T K f_is_stand := by
  obtain ⟨fd, F⟩ := c.def_ 6 (d := d_is_stand) rfl
  exact ⟨_, _, _, _, _, fd, F, FunD.bindsN (ps := f_is_stand.ps) F (fun _ _ _ _ _ _ us hl => match us, hl with | [_, _, _], _ => rfl), ck_is_stand⟩
theorem ff_check_stand {K : PySem.W.Frag} (c : He.SaysD faL fnL K) : FnFact T K f_check_stand := by
  obtain ⟨fd, F⟩ := c.def_ 7 (d := d_check_stand) rfl
  exact ⟨_, _, _, _, _, fd, F, FunD.bindsN (ps := f_check_stand.ps) F (fun _ _ _ _ _ _ us hl => match us, hl with | [_, _, _], _ => rfl), ck_check_stand⟩
theorem ff_is_message {K : PySem.W.Frag} (c : He.SaysD faL fnL K) : FnFact T K f_is_message := by
  obtain ⟨fd, F⟩ := c.def_ 8 (d := d_is_message) rfl
  exact ⟨_, _, _, _, _, fd, F, FunD.bindsN (ps := f_is_message.ps) F (fun _ _ _ _ _ _ us hl => match us, hl with | [_, _], _ => rfl), ck_is_message⟩
theorem ff_bad_message {K : PySem.W.Frag} (c : He.SaysD faL fnL K) : FnFact T K f_bad_message := by
  obtain ⟨fd, F⟩ := c.def_ 9 (d := d_bad_message) rfl
  exact ⟨_, _, _, _, _, fd, F, FunD.bindsN (ps := f_bad_message.ps) F (fun _ _ _ _ _ _ us hl => match us, hl with | [_, _], _ => rfl), ck_bad_message⟩
theorem ff_check_messages {K : PySem.W.Frag} (c : He.SaysD faL fnL K) : FnFact T K f_check_messages := by
  obtain ⟨fd, F⟩ := c.def_ 10 (d := d_check_messages) rfl
  exact ⟨_, _, _, _, _, fd, F, FunD.bindsN (ps := f_check_messages.ps) F (fun _ _ _ _ _ _ us hl => match us, hl with | [_, _], _ => rfl), ck_check_messages⟩
theorem ff_are_kinds {K : PySem.W.Frag} (c : He.SaysD faL fnL K) : FnFact T K f_are_kinds := by
  obtain ⟨fd, F⟩ := c.def_ 11 (d := d_are_kinds) rfl
  exact ⟨_, _, _, _, _, fd, F, FunD.bindsN (ps := f_are_kinds.ps) F (fun _ _ _ _ _ _ us hl => match us, hl with | [_, _], _ => rfl), ck_are_kinds⟩
theorem ff_are_burdens {K : PySem.W.Frag} (c : He.SaysD faL fnL K) : FnFact T K f_are_burdens := by
  obtain ⟨fd, F⟩ := c.def_ 12 (d := d_are_burdens) rfl
  exact ⟨_, _, _, _, _, fd, F, FunD.bindsN (ps := f_are_burdens.ps) F (fun _ _ _ _ _ _ us hl => match us, hl with | [_], _ => rfl), ck_are_burdens⟩
theorem ff_are_shows {K : PySem.W.Frag} (c : He.SaysD faL fnL K) : FnFact T K f_are_shows := by
  obtain ⟨fd, F⟩ := c.def_ 13 (d := d_are_shows) rfl
  exact ⟨_, _, _, _, _, fd, F, FunD.bindsN (ps := f_are_shows.ps) F (fun _ _ _ _ _ _ us hl => match us, hl with | [_, _, _], _ => rfl), ck_are_shows⟩
theorem ff_copied {K : PySem.W.Frag} (c : He.SaysD faL fnL K) : FnFact T K f_copied := by
  obtain ⟨fd, F⟩ := c.def_ 14 (d := d_copied) rfl
  exact ⟨_, _, _, _, _, fd, F, FunD.bindsN (ps := f_copied.ps) F (fun _ _ _ _ _ _ us hl => match us, hl with | [_], _ => rfl), ck_copied⟩
theorem ff_dot {K : PySem.W.Frag} (c : He.SaysD faL fnL K) : FnFact T K f_dot := by
  obtain ⟨fd, F⟩ := c.def_ 15 (d := d_dot) rfl
  exact ⟨_, _, _, _, _, fd, F, FunD.bindsN (ps := f_dot.ps) F (fun _ _ _ _ _ _ us hl => match us, hl with | [_, _], _ => rfl), ck_dot⟩
theorem ff_is_statement {K : PySem.W.Frag} (c : He.SaysD faL fnL K) : FnFact T K f_is_statement := by
  obtain ⟨fd, F⟩ := c.def_ 16 (d := d_is_statement) rfl
  exact ⟨_, _, _, _, _, fd, F, FunD.bindsN (ps := f_is_statement.ps) F (fun _ _ _ _ _ _ us hl => match us, hl with | [_, _, _, _], _ => rfl), ck_is_statement⟩
theorem ff_is_block {K : PySem.W.Frag} (c : He.SaysD faL fnL K) : FnFact T K f_is_block := by
  obtain ⟨fd, F⟩ := c.def_ 17 (d := d_is_block) rfl
  exact ⟨_, _, _, _, _, fd, F, FunD.bindsN (ps := f_is_block.ps) F (fun _ _ _ _ _ _ us hl => match us, hl with | [_, _, _, _], _ => rfl), ck_is_block⟩
theorem ff_are_blocks {K : PySem.W.Frag} (c : He.SaysD faL fnL K) : FnFact T K f_are_blocks := by
  obtain ⟨fd, F⟩ := c.def_ 18 (d := d_are_blocks) rfl
  exact ⟨_, _, _, _, _, fd, F, FunD.bindsN (ps := f_are_blocks.ps) F (fun _ _ _ _ _ _ us hl => match us, hl with | [_, _, _], _ => rfl), ck_are_blocks⟩
theorem ff_copied_statement {K : PySem.W.Frag} (c : He.SaysD faL fnL K) : FnFact T K f_copied_statement := by
  obtain ⟨fd, F⟩ := c.def_ 19 (d := d_copied_statement) rfl
  exact ⟨_, _, _, _, _, fd, F, FunD.bindsN (ps := f_copied_statement.ps) F (fun _ _ _ _ _ _ us hl => match us, hl with | [_], _ => rfl), ck_copied_statement⟩
theorem ff_Scriptu_initu {K : PySem.W.Frag} (c : He.SaysD faL fnL K) : FnFact T K f_Scriptu_initu := by
  obtain ⟨fd, F⟩ := c.def_ 20 (d := d_Scriptu_initu) rfl
  exact ⟨_, _, _, _, _, fd, F, FunD.bindsN (ps := f_Scriptu_initu.ps) F (fun _ _ _ _ _ _ us hl => match us, hl with | [_, _, _, _, _], _ => rfl), ck_Scriptu_initu⟩
theorem ff_script_hear {K : PySem.W.Frag} (c : He.SaysD faL fnL K) : FnFact T K f_script_hear := by
  obtain ⟨fd, F⟩ := c.def_ 21 (d := d_script_hear) rfl
  exact ⟨_, _, _, _, _, fd, F, FunD.bindsN (ps := f_script_hear.ps) F (fun _ _ _ _ _ _ us hl => match us, hl with | [_, _, _], _ => rfl), ck_script_hear⟩
theorem ff_l_pool {K : PySem.W.Frag} (c : He.SaysD faL fnL K) : FnFact T K f_l_pool := by
  obtain ⟨fd, F⟩ := c.def_ 22 (d := d_l_pool) rfl
  exact ⟨_, _, _, _, _, fd, F, FunD.bindsN (ps := f_l_pool.ps) F (fun _ _ _ _ _ _ us hl => match us, hl with | [_, _], _ => rfl), ck_l_pool⟩
theorem ff_l_draw {K : PySem.W.Frag} (c : He.SaysD faL fnL K) : FnFact T K f_l_draw := by
  obtain ⟨fd, F⟩ := c.def_ 23 (d := d_l_draw) rfl
  exact ⟨_, _, _, _, _, fd, F, FunD.bindsN (ps := f_l_draw.ps) F (fun _ _ _ _ _ _ us hl => match us, hl with | [_, _], _ => rfl), ck_l_draw⟩
theorem ff_l_is_integer {K : PySem.W.Frag} (c : He.SaysD faL fnL K) : FnFact T K f_l_is_integer := by
  obtain ⟨fd, F⟩ := c.def_ 24 (d := d_l_is_integer) rfl
  exact ⟨_, _, _, _, _, fd, F, FunD.bindsN (ps := f_l_is_integer.ps) F (fun _ _ _ _ _ _ us hl => match us, hl with | [_], _ => rfl), ck_l_is_integer⟩
theorem ff_l_number {K : PySem.W.Frag} (c : He.SaysD faL fnL K) : FnFact T K f_l_number := by
  obtain ⟨fd, F⟩ := c.def_ 25 (d := d_l_number) rfl
  exact ⟨_, _, _, _, _, fd, F, FunD.bindsN (ps := f_l_number.ps) F (fun _ _ _ _ _ _ us hl => match us, hl with | [_], _ => rfl), ck_l_number⟩
theorem ff_l_statement {K : PySem.W.Frag} (c : He.SaysD faL fnL K) : FnFact T K f_l_statement := by
  obtain ⟨fd, F⟩ := c.def_ 26 (d := d_l_statement) rfl
  exact ⟨_, _, _, _, _, fd, F, FunD.bindsN (ps := f_l_statement.ps) F (fun _ _ _ _ _ _ us hl => match us, hl with | [_, _, _, _, _], _ => rfl), ck_l_statement⟩
theorem ff_l_script_parts {K : PySem.W.Frag} (c : He.SaysD faL fnL K) : FnFact T K f_l_script_parts := by
  obtain ⟨fd, F⟩ := c.def_ 27 (d := d_l_script_parts) rfl
  exact ⟨_, _, _, _, _, fd, F, FunD.bindsN (ps := f_l_script_parts.ps) F (fun _ _ _ _ _ _ us hl => match us, hl with | [_], _ => rfl), ck_l_script_parts⟩
theorem ff_l_blocks_copy {K : PySem.W.Frag} (c : He.SaysD faL fnL K) : FnFact T K f_l_blocks_copy := by
  obtain ⟨fd, F⟩ := c.def_ 28 (d := d_l_blocks_copy) rfl
  exact ⟨_, _, _, _, _, fd, F, FunD.bindsN (ps := f_l_blocks_copy.ps) F (fun _ _ _ _ _ _ us hl => match us, hl with | [_], _ => rfl), ck_l_blocks_copy⟩
theorem ff_l_copied {K : PySem.W.Frag} (c : He.SaysD faL fnL K) : FnFact T K f_l_copied := by
  obtain ⟨fd, F⟩ := c.def_ 29 (d := d_l_copied) rfl
  exact ⟨_, _, _, _, _, fd, F, FunD.bindsN (ps := f_l_copied.ps) F (fun _ _ _ _ _ _ us hl => match us, hl with | [_], _ => rfl), ck_l_copied⟩
theorem ff_l_script {K : PySem.W.Frag} (c : He.SaysD faL fnL K) : FnFact T K f_l_script := by
  obtain ⟨fd, F⟩ := c.def_ 30 (d := d_l_script) rfl
  exact ⟨_, _, _, _, _, fd, F, FunD.bindsN (ps := f_l_script.ps) F (fun _ _ _ _ _ _ us hl => match us, hl with | [_], _ => rfl), ck_l_script⟩
theorem ff_l_script_message {K : PySem.W.Frag} (c : He.SaysD faL fnL K) : FnFact T K f_l_script_message := by
  obtain ⟨fd, F⟩ := c.def_ 31 (d := d_l_script_message) rfl
  exact ⟨_, _, _, _, _, fd, F, FunD.bindsN (ps := f_l_script_message.ps) F (fun _ _ _ _ _ _ us hl => match us, hl with | [_, _], _ => rfl), ck_l_script_message⟩
theorem ff_l_script_stand {K : PySem.W.Frag} (c : He.SaysD faL fnL K) : FnFact T K f_l_script_stand := by
  obtain ⟨fd, F⟩ := c.def_ 32 (d := d_l_script_stand) rfl
  exact ⟨_, _, _, _, _, fd, F, FunD.bindsN (ps := f_l_script_stand.ps) F (fun _ _ _ _ _ _ us hl => match us, hl with | [_, _], _ => rfl), ck_l_script_stand⟩
theorem ff_l_bad_stand {K : PySem.W.Frag} (c : He.SaysD faL fnL K) : FnFact T K f_l_bad_stand := by
  obtain ⟨fd, F⟩ := c.def_ 33 (d := d_l_bad_stand) rfl
  exact ⟨_, _, _, _, _, fd, F, FunD.bindsN (ps := f_l_bad_stand.ps) F (fun _ _ _ _ _ _ us hl => match us, hl with | [_, _, _], _ => rfl), ck_l_bad_stand⟩
theorem ff_l_bad_message {K : PySem.W.Frag} (c : He.SaysD faL fnL K) : FnFact T K f_l_bad_message := by
  obtain ⟨fd, F⟩ := c.def_ 34 (d := d_l_bad_message) rfl
  exact ⟨_, _, _, _, _, fd, F, FunD.bindsN (ps := f_l_bad_message.ps) F (fun _ _ _ _ _ _ us hl => match us, hl with | [_, _, _], _ => rfl), ck_l_bad_message⟩
theorem ff_l_bad_statement {K : PySem.W.Frag} (c : He.SaysD faL fnL K) : FnFact T K f_l_bad_statement := by
  obtain ⟨fd, F⟩ := c.def_ 35 (d := d_l_bad_statement) rfl
  exact ⟨_, _, _, _, _, fd, F, FunD.bindsN (ps := f_l_bad_statement.ps) F (fun _ _ _ _ _ _ us hl => match us, hl with | [_, _, _, _], _ => rfl), ck_l_bad_statement⟩
theorem ff_l_bad_blocks {K : PySem.W.Frag} (c : He.SaysD faL fnL K) : FnFact T K f_l_bad_blocks := by
  obtain ⟨fd, F⟩ := c.def_ 36 (d := d_l_bad_blocks) rfl
  exact ⟨_, _, _, _, _, fd, F, FunD.bindsN (ps := f_l_bad_blocks.ps) F (fun _ _ _ _ _ _ us hl => match us, hl with | [_, _], _ => rfl), ck_l_bad_blocks⟩
theorem ff_l_bad_shows {K : PySem.W.Frag} (c : He.SaysD faL fnL K) : FnFact T K f_l_bad_shows := by
  obtain ⟨fd, F⟩ := c.def_ 37 (d := d_l_bad_shows) rfl
  exact ⟨_, _, _, _, _, fd, F, FunD.bindsN (ps := f_l_bad_shows.ps) F (fun _ _ _ _ _ _ us hl => match us, hl with | [_, _, _], _ => rfl), ck_l_bad_shows⟩
theorem ff_l_asked {K : PySem.W.Frag} (c : He.SaysD faL fnL K) : FnFact T K f_l_asked := by
  obtain ⟨fd, F⟩ := c.def_ 38 (d := d_l_asked) rfl
  exact ⟨_, _, _, _, _, fd, F, FunD.bindsN (ps := f_l_asked.ps) F (fun _ _ _ _ _ _ us hl => match us, hl with | [_, _, _], _ => rfl), ck_l_asked⟩
theorem ff_law {K : PySem.W.Frag} (c : He.SaysD faL fnL K) : FnFact T K f_law := by
  obtain ⟨fd, F⟩ := c.def_ 39 (d := d_law) rfl
  exact ⟨_, _, _, _, _, fd, F, FunD.bindsN (ps := f_law.ps) F (fun _ _ _ _ _ _ us hl => match us, hl with | [_], _ => rfl), ck_law⟩
theorem xf_NoListener {K : PySem.W.Frag} (c : He.SaysD faL fnL K) : XFact K ((Str.ofString "NoListener"), (Str.ofString "place")) := by
  obtain ⟨fd, F⟩ := c.def_ 40 (d := d_xNoListener) rfl
  exact ⟨_, _, _, _, _, fd, _, F, FunD.bindsN (ps := [(Str.ofString "self"), (Str.ofString "place")]) F (fun _ _ _ _ _ _ us hl => match us, hl with | [_, _], _ => rfl), ckx_NoListener⟩
theorem xf_NoMessage {K : PySem.W.Frag} (c : He.SaysD faL fnL K) : XFact K ((Str.ofString "NoMessage"), (Str.ofString "index")) := by
  obtain ⟨fd, F⟩ := c.def_ 41 (d := d_xNoMessage) rfl
  exact ⟨_, _, _, _, _, fd, _, F, FunD.bindsN (ps := [(Str.ofString "self"), (Str.ofString "index")]) F (fun _ _ _ _ _ _ us hl => match us, hl with | [_, _], _ => rfl), ckx_NoMessage⟩
theorem xf_NoScript {K : PySem.W.Frag} (c : He.SaysD faL fnL K) : XFact K ((Str.ofString "NoScript"), (Str.ofString "place")) := by
  obtain ⟨fd, F⟩ := c.def_ 42 (d := d_xNoScript) rfl
  exact ⟨_, _, _, _, _, fd, _, F, FunD.bindsN (ps := [(Str.ofString "self"), (Str.ofString "place")]) F (fun _ _ _ _ _ _ us hl => match us, hl with | [_, _], _ => rfl), ckx_NoScript⟩
theorem if_l_is_integer {K : PySem.W.Frag} (c : He.SaysD faL fnL K) : IsnFact T K i_l_is_integer := fun fn h => by
  have e : f_l_is_integer = fn := Option.some.inj h
  subst e
  obtain ⟨fd, F⟩ := c.def_ 24 (d := d_l_is_integer) rfl
  exact ⟨rfl, _, _, _, _, _, fd, F, FunD.bindsN (ps := f_l_is_integer.ps) F (fun _ _ _ _ _ _ us hl => match us, hl with | [_], _ => rfl), cki_l_is_integer⟩
theorem facts {K : PySem.W.Frag} {h : Heap} {mg : Str → Option Value} (X : K.In h) (G : h.Ns mainGlobals mg) (c : He.SaysD faL fnL K) (hx : xAll T K = true) : ProgOk T K mg :=
  prog_ok X G (fun f hf => He.SaysD.facts c hf) msT ocT ⟨ff_is_integer c, ff_is_index c, ff_is_vector c, ff_is_row c, ff_are_rows c, ff_are_integers c, ff_is_stand c, ff_check_stand c, ff_is_message c, ff_bad_message c, ff_check_messages c, ff_are_kinds c, ff_are_burdens c, ff_are_shows c, ff_copied c, ff_dot c, ff_is_statement c, ff_is_block c, ff_are_blocks c, ff_copied_statement c, ff_Scriptu_initu c, ff_script_hear c, ff_l_pool c, ff_l_draw c, ff_l_is_integer c, ff_l_number c, ff_l_statement c, ff_l_script_parts c, ff_l_blocks_copy c, ff_l_copied c, ff_l_script c, ff_l_script_message c, ff_l_script_stand c, ff_l_bad_stand c, ff_l_bad_message c, ff_l_bad_statement c, ff_l_bad_blocks c, ff_l_bad_shows c, ff_l_asked c, ff_law c, trivial⟩ hx (FL.AllP.mem (show FL.AllP (XFact K) T.xi from ⟨xf_NoListener c, xf_NoMessage c, xf_NoScript c, trivial⟩)) (FL.AllP.mem (show FL.AllP (IsnFact T K) T.isn from ⟨if_l_is_integer c, trivial⟩))
theorem lawF {P : Program} {w : World} {K : PySem.W.Frag} {h : Heap} {mg : Str → Option Value} {f : Addr} (X : K.In h) (G : h.Ns mainGlobals mg) (hfa : mg (Str.ofString "law") = some (.ref f)) (c : He.SaysD faL fnL K) (hx : xAll T K = true) :
    ∃ fd : FuncData, (∀ (s : Shared) (v : Value), BindsTo s fd ⟨[v], []⟩ [((Str.ofString "_law_script_here"), v)]) ∧ ∀ base : Heap, K.In base → base.Ns mainGlobals mg → FnOk P w K mg base (L2N.CX P w) (2 * (20 + 1) + 2) f fd [(Str.ofString "_law_script_here")] (spOf K 1 (run T (20 + 1) i_law) (runX T (20 + 1) i_law)) := by
  obtain ⟨fd, F⟩ := c.def_ 39 (d := d_law) rfl
  have b := FunD.bindsA (ps := [(Str.ofString "_law_script_here")]) F fun _ _ _ _ _ _ us hl => match us, hl with | [_], _ => rfl
  have O := facts X G c hx
  have e := hfa.symm.trans (O.glo i_law f_law rfl rfl)
  cases e
  exact ⟨fd, fun s v => b s [v] rfl, fun base _ _ => law_fn O 20 (i := i_law) (fn := f_law) rfl F ck_law⟩
end K24
open PySem PySem.W PySem.Calls PyProof.Rows FL
theorem PySem.Challenge.cw_latecomers_k24_refused_scripts_holds : PySem.Challenge.rw_latecomers_k24_refused_scripts.Holds := by
  w_on; o_law
  refine HandSHeadRun.head_any (r := OpenLaw.row PySem.Challenge.rw_latecomers_k24_refused_scripts) (q := view (OpenLaw.row PySem.Challenge.rw_latecomers_k24_refused_scripts).prog [49]) (H := K24.hk) (ob := K24.ob) (M := 20000) (loose := K24.looseL) (d := HandSHeadRun.topDef (OpenLaw.row PySem.Challenge.rw_latecomers_k24_refused_scripts).prog 49) (kwd := []) K24.ob_eq
    (by kernel_rfl) (fun s => by kernel_rfl) K24.runs (by kernel_rfl) (by kernel_rfl) (by kernel_rfl) (by rfl) (by first | assumption | decide +kernel) (by decide +kernel) ⟨rfl, rfl, rfl, rfl, rfl, by decide +kernel⟩ ?hw ?hc
  case hw => w_witness2
  case hc =>
    refine FL.law_end (l := PySem.Challenge.rw_latecomers_k24_refused_scripts) (n := 63) (k := 2 * (20 + 1) + 2) (x := (Str.ofString "_law_script_here")) rfl (by decide) (by kernel_rfl) ⟨rfl, by decide, by decide⟩ ?F
    intro w mg fa h Y G hmg0
    obtain ⟨K, KX, cx⟩ := Y
    have c := cx.t.d
    have hmg : mg (Str.ofString "law") = some (.ref fa) := by
      have e : (HandSHeadRun.topDef (OpenLaw.row PySem.Challenge.rw_latecomers_k24_refused_scripts).prog 49).name = (Str.ofString "law") := by kernel_rfl
      rw [← e]
      exact hmg0
    obtain ⟨fd, hb, hF⟩ := K24.lawF (P := (PySem.Challenge.rw_latecomers_k24_refused_scripts).prog) (w := w) KX G hmg c cx.more
    exact ⟨K, fd, FL.spOf K 1 (FL.run K24.T (20 + 1) K24.i_law) (FL.runX K24.T (20 + 1) K24.i_law), KX, hb, fun H a ns hl _ hS => FL.law_sp hS (K24.law_true ns hl), hF⟩

