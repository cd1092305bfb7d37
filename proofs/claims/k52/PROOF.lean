import PyProof.Rows.All
import Wide.All
import OpenK.AllK
import Wide.FinOn
import HandS.ForMost
import HandS.ForExc
import HandS.CallSlots
import HandS.HeadHook1
import HandS.ExcCtx
import HandS.IsInst
import HandS.Wide
import HandS.More
import HandS.Zip
import HandS.Defaults
import HandS.Head0
import HandS.Head1
import HandS.Head2
import HandS.HeadEnd
import HandS.HeadHook2
import HandS.HeadHook3
import HandS.HeadHook4
import HandS.EndTab
import HandS.HeadWalk
import HandS.Conv
import HandS.Iter
import HandS.TupAny
import KE.KUnpackStar
import HandS.FStr
import PyProof.ReprRoads
import HandS.StrMore
import HandS.ExcInit
import HandS.ExcField
import HandS.ExcOwn
import HandS.HotCalls
import HandS.MakeKwOnly
import HandS.ExcIs
import KE.KExcIs
import HandS.CallLocal
import HandS.SetFor
import PyProof.SeqRoads2
import PyProof.TupleOfStr
import KE.KEqNest
import PyProof.EqAt
import HandS.Style
import PySem.Challenge.RW_logdelve_k52_what_changed_between_two_li
set_option Elab.async false
set_option linter.all false
set_option maxRecDepth 100000
set_option maxHeartbeats 4000000
namespace D
open PySem L2

/-- around a body nothing is let out -/
theorem takes0 {X : Cx} : L2N.Takes X (fun _ _ _ _ => False) := fun _ _ x => by
  obtain ⟨_, _, _, _, _, _, _, _, _, _, _, _, _, _, _, _, z⟩ := x
  exact z.elim
/-! ### data -/
inductive Dat where
  | non | bl (b : Bool) | int (i : Int) | str (s : Str) | ty (n : String)
  | tup (l : List Dat) | lst (l : List Dat) | scr (l : List Dat) | dic (l : List (Key × Dat)) | adr (a : Addr)
  | glo (x : Str) | obj (c : Str) (l : List (Str × Dat)) | exn (a : Addr) (d : Option Addr) (c : Str) (l : List (Str × Dat))
  | dit (l : List (List Key × Dat)) | own (d : Dat) | lck (d : Dat)

/-- a tuple: tracked, or one of the written part -/
noncomputable def TupAt (K : PySem.W.Frag) (H : Hp) (a : Addr) (xs : List V) : Prop := H a = some (.tup xs) ∨
  ∃ (o : Obj) (its : Array Value) (n : Nat), K.lookup a = some o ∧ o.cls = .type "tuple" ∧ o.data = .seq its n ∧ its.size ≤ sizeLine ∧ Vals xs its.toList
theorem TupAt.sq {K : PySem.W.Frag} {H : Hp} {a : Addr} {xs : List V} (h : TupAt K H a xs) : SqT K H a xs := h.elim (fun h => .inl (.inl h)) .inr
mutual
inductive Rep (K : PySem.W.Frag) (H : Hp) : Dat → V → Prop where
  | non : Rep K H .non .non
  | bl {b : Bool} : Rep K H (.bl b) (.bl b)
  | int {i : Int} : Rep K H (.int i) (.int i)
  | str {s : Str} : Rep K H (.str s) (.str s)
  | ty {n : String} : Rep K H (.ty n) (.ty n)
  | tup {l : List Dat} {a : Addr} {xs : List V} (h : TupAt K H a xs) (r : Reps K H l xs) : Rep K H (.tup l) (.ref a)
  | lst {l : List Dat} {a : Addr} {xs : List V} (h : H a = some (.lst xs)) (r : Reps K H l xs) : Rep K H (.lst l) (.ref a)
  | scr {l : List Dat} {a : Addr} {xs : List V} (h : SqL K H a xs) (r : Reps K H l xs) : Rep K H (.scr l) (.ref a)
  | dic {l : List (Key × Dat)} {a : Addr} {xs : List (Key × V)} (h : ∃ o, H a = some (.frz o (.dK xs))) (r : RepK K H l xs) : Rep K H (.dic l) (.ref a)
  | adr {a : Addr} : Rep K H (.adr a) (.ref a)
  | glo {x : Str} : Rep K H (.glo x) (.ref (He.ga K x))
  | obj {c : Str} {l : List (Str × Dat)} {a dx : Addr} {xs : List (Str × V)} (h : H a = some (.ins (He.ga K c) dx xs)) (r : RepF K H l xs) : Rep K H (.obj c l) (.ref a)
  | exn {a d : Addr} {c : Str} {l : List (Str × Dat)} {xs : List (Str × V)} (h : H d = some (.xd xs)) (r : RepF K H l xs) : Rep K H (.exn a (some d) c l) (.ref a)
  | exn0 {a : Addr} {c : Str} : Rep K H (.exn a none c []) (.ref a)
  | dit {l : List (List Key × Dat)} {a : Addr} {xs : List (List Key × V)} (h : ∃ o, H a = some (.frz o (.dT xs))) (r : RepT K H l xs) : Rep K H (.dit l) (.ref a)
inductive Reps (K : PySem.W.Frag) (H : Hp) : List Dat → List V → Prop where
  | nil : Reps K H [] []
  | cons {d : Dat} {x : V} {l : List Dat} {xs : List V} (h : Rep K H d x) (r : Reps K H l xs) : Reps K H (d :: l) (x :: xs)
inductive RepK (K : PySem.W.Frag) (H : Hp) : List (Key × Dat) → List (Key × V) → Prop where
  | nil : RepK K H [] []
  | cons {k : Key} {d : Dat} {x : V} {l : List (Key × Dat)} {xs : List (Key × V)} (h : Rep K H d x) (r : RepK K H l xs) : RepK K H ((k, d) :: l) ((k, x) :: xs)
inductive RepT (K : PySem.W.Frag) (H : Hp) : List (List Key × Dat) → List (List Key × V) → Prop where
  | nil : RepT K H [] []
  | cons {k : List Key} {d : Dat} {x : V} {l : List (List Key × Dat)} {xs : List (List Key × V)} (h : Rep K H d x) (r : RepT K H l xs) : RepT K H ((k, d) :: l) ((k, x) :: xs)
inductive RepF (K : PySem.W.Frag) (H : Hp) : List (Str × Dat) → List (Str × V) → Prop where
  | nil : RepF K H [] []
  | cons {k : Str} {d : Dat} {x : V} {l : List (Str × Dat)} {xs : List (Str × V)} (h : Rep K H d x) (r : RepF K H l xs) : RepF K H ((k, d) :: l) ((k, x) :: xs)
end

theorem TupAt.mono {K : PySem.W.Frag} {H H' : Hp} {a : Addr} {xs : List V} (e : Same H H') (h : TupAt K H a xs) : TupAt K H' a xs := h.elim (fun h => .inl (e _ _ h)) .inr
mutual
theorem Rep.mono {K : PySem.W.Frag} {H H' : Hp} (e : Same H H') : ∀ {d : Dat} {v : V}, Rep K H d v → Rep K H' d v
  | _, _, .non => .non
  | _, _, .bl => .bl
  | _, _, .int => .int
  | _, _, .str => .str
  | _, _, .ty => .ty
  | _, _, .tup h r => .tup (h.mono e) (Reps.mono e r)
  | _, _, .lst h r => .lst (e _ _ h) (Reps.mono e r)
  | _, _, .scr h r => .scr (e.seq h) (Reps.mono e r)
  | _, _, .dic ⟨o, h⟩ r => .dic ⟨o, e _ _ h⟩ (RepK.mono e r)
  | _, _, .adr => .adr
  | _, _, .glo => .glo
  | _, _, .obj h r => .obj (e _ _ h) (RepF.mono e r)
  | _, _, .exn h r => .exn (e _ _ h) (RepF.mono e r)
  | _, _, .exn0 => .exn0
  | _, _, .dit ⟨o, h⟩ r => .dit ⟨o, e _ _ h⟩ (RepT.mono e r)
theorem Reps.mono {K : PySem.W.Frag} {H H' : Hp} (e : Same H H') : ∀ {d : List Dat} {v : List V}, Reps K H d v → Reps K H' d v
  | _, _, .nil => .nil
  | _, _, .cons h r => .cons (Rep.mono e h) (Reps.mono e r)
theorem RepK.mono {K : PySem.W.Frag} {H H' : Hp} (e : Same H H') : ∀ {d : List (Key × Dat)} {v : List (Key × V)}, RepK K H d v → RepK K H' d v
  | _, _, .nil => .nil
  | _, _, .cons h r => .cons (Rep.mono e h) (RepK.mono e r)
theorem RepT.mono {K : PySem.W.Frag} {H H' : Hp} (e : Same H H') : ∀ {d : List (List Key × Dat)} {v : List (List Key × V)}, RepT K H d v → RepT K H' d v
  | _, _, .nil => .nil
  | _, _, .cons h r => .cons (Rep.mono e h) (RepT.mono e r)
theorem RepF.mono {K : PySem.W.Frag} {H H' : Hp} (e : Same H H') : ∀ {d : List (Str × Dat)} {v : List (Str × V)}, RepF K H d v → RepF K H' d v
  | _, _, .nil => .nil
  | _, _, .cons h r => .cons (Rep.mono e h) (RepF.mono e r)
end
theorem Reps.length {K : PySem.W.Frag} {H : Hp} : ∀ {l : List Dat} {xs : List V}, Reps K H l xs → l.length = xs.length
  | _, _, .nil => rfl
  | _, _, .cons _ r => congrArg (· + 1) r.length
theorem Reps.get {K : PySem.W.Frag} {H : Hp} : ∀ {l : List Dat} {xs : List V} {i : Nat} {d : Dat}, Reps K H l xs → l[i]? = some d → ∃ x, xs[i]? = some x ∧ Rep K H d x
  | _, _, _, _, .nil, e => by simp at e
  | _, _, 0, _, .cons h _, e => by simp at e; subst e; exact ⟨_, rfl, h⟩
  | _, _, i + 1, _, .cons _ r, e => by
    obtain ⟨x, h1, h2⟩ := Reps.get (i := i) r (by simpa using e)
    exact ⟨x, by simpa using h1, h2⟩
theorem Reps.get' {K : PySem.W.Frag} {H : Hp} : ∀ {l : List Dat} {xs : List V} {i : Nat} {x : V}, Reps K H l xs → xs[i]? = some x → ∃ d, l[i]? = some d ∧ Rep K H d x
  | _, _, _, _, .nil, e => by simp at e
  | _, _, 0, _, .cons h _, e => by simp at e; subst e; exact ⟨_, rfl, h⟩
  | _, _, i + 1, _, .cons _ r, e => by
    obtain ⟨x, h1, h2⟩ := Reps.get' (i := i) r (by simpa using e)
    exact ⟨x, by simpa using h1, h2⟩
theorem Reps.append {K : PySem.W.Frag} {H : Hp} : ∀ {l l2 : List Dat} {xs ys : List V}, Reps K H l xs → Reps K H l2 ys → Reps K H (l ++ l2) (xs ++ ys)
  | _, _, _, _, .nil, s => s
  | _, _, _, _, .cons h r, s => .cons h (r.append s)

/-! ### slots -/
inductive Sl where
  | no | fr (d : Dat) | ow (d : Dat)
noncomputable abbrev En := List Sl
mutual
/-- a tree of what is owned: the thing at a, the addresses that it owns; its parts are frozen, or owned too -/
inductive Tr (K : PySem.W.Frag) (Hf H : Hp) : List Addr → Addr → Dat → Prop where
  | lst {F : List Addr} {a : Addr} {l : List Dat} {xs : List V} (h : H a = some (.lst xs)) (r : Pts K Hf H F xs l) (n : a ∉ F) : Tr K Hf H (a :: F) a (.lst l)
  | tup {F : List Addr} {a : Addr} {l : List Dat} {xs : List V} (h : H a = some (.tup xs)) (r : Pts K Hf H F xs l) (n : Hf a = some (.tup xs)) : Tr K Hf H F a (.tup l)
  | dic {F : List Addr} {a : Addr} {l : List (Key × Dat)} {xs : List (Key × V)} (h : H a = some (.dK xs)) (k : xs.map (·.1) = l.map (·.1)) (r : Pts K Hf H F (xs.map (·.2)) (l.map (·.2))) (n : a ∉ F) : Tr K Hf H (a :: F) a (.dic l)
  | dit {F : List Addr} {a : Addr} {l : List (List Key × Dat)} {xs : List (List Key × V)} (h : H a = some (.dT xs)) (k : xs.map (·.1) = l.map (·.1)) (r : Pts K Hf H F (xs.map (·.2)) (l.map (·.2))) (n : a ∉ F) : Tr K Hf H (a :: F) a (.dit l)
  | ldic {F : List Addr} {a : Addr} {l : List (Key × Dat)} {xs : List (Key × V)} (h : ∃ o, H a = some (.frz o (.dK xs))) (k : xs.map (·.1) = l.map (·.1)) (r : Pts K Hf H F (xs.map (·.2)) (l.map (·.2))) (n : a ∉ F) : Tr K Hf H (a :: F) a (.lck (.dic l))
  | ldit {F : List Addr} {a : Addr} {l : List (List Key × Dat)} {xs : List (List Key × V)} (h : ∃ o, H a = some (.frz o (.dT xs))) (k : xs.map (·.1) = l.map (·.1)) (r : Pts K Hf H F (xs.map (·.2)) (l.map (·.2))) (n : a ∉ F) : Tr K Hf H (a :: F) a (.lck (.dit l))
  | obj {F : List Addr} {a dx : Addr} {c : Str} {l : List (Str × Dat)} {xs : List (Str × V)} (h : H a = some (.ins (He.ga K c) dx xs)) (k : xs.map (·.1) = l.map (·.1)) (r : Pts K Hf H F (xs.map (·.2)) (l.map (·.2))) (n : a ∉ F) : Tr K Hf H (a :: F) a (.obj c l)
inductive Pt (K : PySem.W.Frag) (Hf H : Hp) : List Addr → V → Dat → Prop where
  | fr {v : V} {d : Dat} (r : Rep K Hf d v) : Pt K Hf H [] v d
  | own {F : List Addr} {a : Addr} {d : Dat} (t : Tr K Hf H F a d) : Pt K Hf H F (.ref a) (.own d)
inductive Pts (K : PySem.W.Frag) (Hf H : Hp) : List Addr → List V → List Dat → Prop where
  | nil : Pts K Hf H [] [] []
  | cons {F G : List Addr} {x : V} {d : Dat} {xs : List V} {l : List Dat} (h : Pt K Hf H F x d) (r : Pts K Hf H G xs l) (n : ∀ b ∈ F, b ∉ G) : Pts K Hf H (F ++ G) (x :: xs) (d :: l)
end
mutual
theorem Tr.mono {K : PySem.W.Frag} {Hf Hf' H H' : Hp} (e : Same Hf Hf') (x : Same Hf' H') : ∀ {F : List Addr} {a : Addr} {d : Dat}, Tr K Hf H F a d → (∀ b ∈ F, ∀ u, H b = some u → H' b = some u) → Tr K Hf' H' F a d
  | _, _, _, .lst h r n, g => .lst (g _ (List.mem_cons_self ..) _ h) (Pts.mono e x r fun b q => g b (List.mem_cons_of_mem _ q)) n
  | _, _, _, .tup h r n, g => .tup (x _ _ (e _ _ n)) (Pts.mono e x r g) (e _ _ n)
  | _, _, _, .dic h k r n, g => .dic (g _ (List.mem_cons_self ..) _ h) k (Pts.mono e x r fun b q => g b (List.mem_cons_of_mem _ q)) n
  | _, _, _, .dit h k r n, g => .dit (g _ (List.mem_cons_self ..) _ h) k (Pts.mono e x r fun b q => g b (List.mem_cons_of_mem _ q)) n
  | _, _, _, .ldic ⟨o, h⟩ k r n, g => .ldic ⟨o, g _ (List.mem_cons_self ..) _ h⟩ k (Pts.mono e x r fun b q => g b (List.mem_cons_of_mem _ q)) n
  | _, _, _, .ldit ⟨o, h⟩ k r n, g => .ldit ⟨o, g _ (List.mem_cons_self ..) _ h⟩ k (Pts.mono e x r fun b q => g b (List.mem_cons_of_mem _ q)) n
  | _, _, _, .obj h k r n, g => .obj (g _ (List.mem_cons_self ..) _ h) k (Pts.mono e x r fun b q => g b (List.mem_cons_of_mem _ q)) n
theorem Pt.mono {K : PySem.W.Frag} {Hf Hf' H H' : Hp} (e : Same Hf Hf') (x : Same Hf' H') : ∀ {F : List Addr} {v : V} {d : Dat}, Pt K Hf H F v d → (∀ b ∈ F, ∀ u, H b = some u → H' b = some u) → Pt K Hf' H' F v d
  | _, _, _, .fr r, _ => .fr (r.mono e)
  | _, _, _, .own t, g => .own (Tr.mono e x t g)
theorem Pts.mono {K : PySem.W.Frag} {Hf Hf' H H' : Hp} (e : Same Hf Hf') (x : Same Hf' H') : ∀ {F : List Addr} {v : List V} {d : List Dat}, Pts K Hf H F v d → (∀ b ∈ F, ∀ u, H b = some u → H' b = some u) → Pts K Hf' H' F v d
  | _, _, _, .nil, _ => .nil
  | _, _, _, .cons h r n, g => .cons (Pt.mono e x h fun b q => g b (List.mem_append_left _ q)) (Pts.mono e x r fun b q => g b (List.mem_append_right _ q)) n
end
mutual
theorem Tr.there {K : PySem.W.Frag} {Hf H : Hp} : ∀ {F : List Addr} {a : Addr} {d : Dat}, Tr K Hf H F a d → ∀ b ∈ F, ∃ u, H b = some u
  | _, _, _, .lst h r n, b, q => (List.mem_cons.mp q).elim (fun z => ⟨_, z ▸ h⟩) (Pts.there r b)
  | _, _, _, .tup h r n, b, q => Pts.there r b q
  | _, _, _, .dic h k r n, b, q => (List.mem_cons.mp q).elim (fun z => ⟨_, z ▸ h⟩) (Pts.there r b)
  | _, _, _, .dit h k r n, b, q => (List.mem_cons.mp q).elim (fun z => ⟨_, z ▸ h⟩) (Pts.there r b)
  | _, _, _, .ldic ⟨o, h⟩ k r n, b, q => (List.mem_cons.mp q).elim (fun z => ⟨_, z ▸ h⟩) (Pts.there r b)
  | _, _, _, .ldit ⟨o, h⟩ k r n, b, q => (List.mem_cons.mp q).elim (fun z => ⟨_, z ▸ h⟩) (Pts.there r b)
  | _, _, _, .obj h k r n, b, q => (List.mem_cons.mp q).elim (fun z => ⟨_, z ▸ h⟩) (Pts.there r b)
theorem Pt.there {K : PySem.W.Frag} {Hf H : Hp} : ∀ {F : List Addr} {v : V} {d : Dat}, Pt K Hf H F v d → ∀ b ∈ F, ∃ u, H b = some u
  | _, _, _, .fr r, b, q => by cases q
  | _, _, _, .own t, b, q => Tr.there t b q
theorem Pts.there {K : PySem.W.Frag} {Hf H : Hp} : ∀ {F : List Addr} {v : List V} {d : List Dat}, Pts K Hf H F v d → ∀ b ∈ F, ∃ u, H b = some u
  | _, _, _, .nil, b, q => by cases q
  | _, _, _, .cons h r n, b, q => (List.mem_append.mp q).elim (Pt.there h b) (Pts.there r b)
end
mutual
theorem Tr.uniq {K : PySem.W.Frag} {Hf Hf' H : Hp} : ∀ {F G : List Addr} {a : Addr} {d : Dat}, Tr K Hf H F a d → Tr K Hf' H G a d → F = G
  | _, _, _, _, .lst h r n, .lst h' r' n' => by rw [h] at h'; cases h'; rw [Pts.uniq r r']
  | _, _, _, _, .tup h r n, .tup h' r' n' => by rw [h] at h'; cases h'; rw [Pts.uniq r r']
  | _, _, _, _, .dic h k r n, .dic h' k' r' n' => by rw [h] at h'; cases h'; rw [Pts.uniq r r']
  | _, _, _, _, .dit h k r n, .dit h' k' r' n' => by rw [h] at h'; cases h'; rw [Pts.uniq r r']
  | _, _, _, _, .ldic ⟨o, h⟩ k r n, .ldic ⟨o', h'⟩ k' r' n' => by rw [h] at h'; cases h'; rw [Pts.uniq r r']
  | _, _, _, _, .ldit ⟨o, h⟩ k r n, .ldit ⟨o', h'⟩ k' r' n' => by rw [h] at h'; cases h'; rw [Pts.uniq r r']
  | _, _, _, _, .obj h k r n, .obj h' k' r' n' => by rw [h] at h'; cases h'; rw [Pts.uniq r r']
theorem Pt.uniq {K : PySem.W.Frag} {Hf Hf' H : Hp} : ∀ {F G : List Addr} {v : V} {d : Dat}, Pt K Hf H F v d → Pt K Hf' H G v d → F = G
  | _, _, _, _, .fr r, .fr r' => rfl
  | _, _, _, _, .own t, .own t' => Tr.uniq t t'
  | _, _, _, _, .fr r, .own t' => nomatch r
  | _, _, _, _, .own t, .fr r' => nomatch r'
theorem Pts.uniq {K : PySem.W.Frag} {Hf Hf' H : Hp} : ∀ {F G : List Addr} {v : List V} {d : List Dat}, Pts K Hf H F v d → Pts K Hf' H G v d → F = G
  | _, _, _, _, .nil, .nil => rfl
  | _, _, _, _, .cons h r n, .cons h' r' n' => by rw [Pt.uniq h h', Pts.uniq r r']
end
theorem Pts.length {K : PySem.W.Frag} {Hf H : Hp} : ∀ {F : List Addr} {xs : List V} {l : List Dat}, Pts K Hf H F xs l → xs.length = l.length
  | _, _, _, .nil => rfl
  | _, _, _, .cons _ r _ => congrArg (· + 1) (Pts.length r)
/-- what can be owned -/
noncomputable def OwnK : HO → Prop
  | .lst _ => True
  | .dK _ => True
  | .dT _ => True
  | .frz _ _ => True
  | .ins _ _ _ => True
  | _ => False
mutual
theorem Tr.kind {K : PySem.W.Frag} {Hf H : Hp} : ∀ {F : List Addr} {a : Addr} {d : Dat}, Tr K Hf H F a d → ∀ b ∈ F, ∀ u, H b = some u → OwnK u
  | _, _, _, .lst h r n, b, q, u, z => (List.mem_cons.mp q).elim (fun y => by rw [y, h] at z; cases z; trivial) fun y => Pts.kind r b y u z
  | _, _, _, .tup h r n, b, q, u, z => Pts.kind r b q u z
  | _, _, _, .dic h k r n, b, q, u, z => (List.mem_cons.mp q).elim (fun y => by rw [y, h] at z; cases z; trivial) fun y => Pts.kind r b y u z
  | _, _, _, .dit h k r n, b, q, u, z => (List.mem_cons.mp q).elim (fun y => by rw [y, h] at z; cases z; trivial) fun y => Pts.kind r b y u z
  | _, _, _, .ldic ⟨o, h⟩ k r n, b, q, u, z => (List.mem_cons.mp q).elim (fun y => by rw [y, h] at z; cases z; trivial) fun y => Pts.kind r b y u z
  | _, _, _, .ldit ⟨o, h⟩ k r n, b, q, u, z => (List.mem_cons.mp q).elim (fun y => by rw [y, h] at z; cases z; trivial) fun y => Pts.kind r b y u z
  | _, _, _, .obj h k r n, b, q, u, z => (List.mem_cons.mp q).elim (fun y => by rw [y, h] at z; cases z; trivial) fun y => Pts.kind r b y u z
theorem Pt.kind {K : PySem.W.Frag} {Hf H : Hp} : ∀ {F : List Addr} {v : V} {d : Dat}, Pt K Hf H F v d → ∀ b ∈ F, ∀ u, H b = some u → OwnK u
  | _, _, _, .fr r, b, q, u, z => (nomatch q)
  | _, _, _, .own t, b, q, u, z => Tr.kind t b q u z
theorem Pts.kind {K : PySem.W.Frag} {Hf H : Hp} : ∀ {F : List Addr} {v : List V} {d : List Dat}, Pts K Hf H F v d → ∀ b ∈ F, ∀ u, H b = some u → OwnK u
  | _, _, _, .nil, b, q, u, z => (nomatch q)
  | _, _, _, .cons h r n, b, q, u, z => (List.mem_append.mp q).elim (fun y => Pt.kind h b y u z) fun y => Pts.kind r b y u z
end
/-- what is owned: a list, a dict, an object of what is frozen; or a tree -/
inductive OwnAt (K : PySem.W.Frag) (Hf H : Hp) : List Addr → Addr → Dat → Prop where
  | lst {a : Addr} {l : List Dat} {xs : List V} (h : H a = some (.lst xs)) (r : Reps K Hf l xs) : OwnAt K Hf H [a] a (.lst l)
  | dic {a : Addr} {l : List (Key × Dat)} {xs : List (Key × V)} (h : H a = some (.dK xs)) (r : RepK K Hf l xs) : OwnAt K Hf H [a] a (.dic l)
  | dit {a : Addr} {l : List (List Key × Dat)} {xs : List (List Key × V)} (h : H a = some (.dT xs)) (r : RepT K Hf l xs) : OwnAt K Hf H [a] a (.dit l)
  | obj {a : Addr} {c : Str} {l : List (Str × Dat)} {dx : Addr} {xs : List (Str × V)} (h : H a = some (.ins (He.ga K c) dx xs)) (r : RepF K Hf l xs) : OwnAt K Hf H [a] a (.obj c l)
  | own {F : List Addr} {a : Addr} {d : Dat} (t : Tr K Hf H F a d) : OwnAt K Hf H F a (.own d)
section
variable {K : PySem.W.Frag} {Hf Hf' H H' : Hp} {F G : List Addr} {a : Addr} {d : Dat}
theorem OwnAt.there (o : OwnAt K Hf H F a d) : ∀ b ∈ F, ∃ u, H b = some u := by
  intro b q
  cases o with
  | lst h _ => cases List.mem_singleton.mp q; exact ⟨_, h⟩
  | dic h _ => cases List.mem_singleton.mp q; exact ⟨_, h⟩
  | dit h _ => cases List.mem_singleton.mp q; exact ⟨_, h⟩
  | obj h _ => cases List.mem_singleton.mp q; exact ⟨_, h⟩
  | own t => exact t.there b q
theorem OwnAt.kind (o : OwnAt K Hf H F a d) : ∀ b ∈ F, ∀ u, H b = some u → OwnK u := fun b q u z => by
  cases o with
  | own t => exact t.kind b q u z
  | lst h r => rw [List.mem_singleton.mp q, h] at z; cases z; trivial
  | obj h r => rw [List.mem_singleton.mp q, h] at z; cases z; trivial
  | dic h r => rw [List.mem_singleton.mp q, h] at z; cases z; trivial
  | dit h r => rw [List.mem_singleton.mp q, h] at z; cases z; trivial
theorem OwnAt.uniq (o : OwnAt K Hf H F a d) (p : OwnAt K Hf' H G a d) : F = G := by
  cases o with
  | own t => cases p with | own t' => exact t.uniq t'
  | lst h r => cases p; rfl
  | dic h r => cases p; rfl
  | dit h r => cases p; rfl
  | obj h r => cases p; rfl
theorem OwnAt.mono (o : OwnAt K Hf H F a d) (e : Same Hf Hf') (x : Same Hf' H') (k : ∀ b ∈ F, ∀ u, H b = some u → H' b = some u) : OwnAt K Hf' H' F a d := by
  cases o with
  | lst h r => exact .lst (k _ (List.mem_singleton_self _) _ h) (r.mono e)
  | dic h r => exact .dic (k _ (List.mem_singleton_self _) _ h) (r.mono e)
  | dit h r => exact .dit (k _ (List.mem_singleton_self _) _ h) (r.mono e)
  | obj h r => exact .obj (k _ (List.mem_singleton_self _) _ h) (r.mono e)
  | own t => exact .own (t.mono e x k)
end
/-- what is owned, and flat -/
noncomputable def OwnF (K : PySem.W.Frag) (Hf H : Hp) (a : Addr) (d : Dat) : Prop := OwnAt K Hf H [a] a d ∧ ∀ t, d ≠ .own t
section
variable {K : PySem.W.Frag} {Hf H : Hp} {a : Addr}
theorem OwnF.lst {l : List Dat} {xs : List V} (h : H a = some (.lst xs)) (r : Reps K Hf l xs) : OwnF K Hf H a (.lst l) := ⟨.lst h r, nofun⟩
theorem OwnF.dic {l : List (Key × Dat)} {xs : List (Key × V)} (h : H a = some (.dK xs)) (r : RepK K Hf l xs) : OwnF K Hf H a (.dic l) := ⟨.dic h r, nofun⟩
theorem OwnF.dit {l : List (List Key × Dat)} {xs : List (List Key × V)} (h : H a = some (.dT xs)) (r : RepT K Hf l xs) : OwnF K Hf H a (.dit l) := ⟨.dit h r, nofun⟩
theorem OwnF.obj {c : Str} {l : List (Str × Dat)} {dx : Addr} {xs : List (Str × V)} (h : H a = some (.ins (He.ga K c) dx xs)) (r : RepF K Hf l xs) : OwnF K Hf H a (.obj c l) := ⟨.obj h r, nofun⟩
end
/-- the heap as it is, or with some things locked -/
inductive Lk (P : Hp → Prop) : Hp → Prop where
  | now {H : Hp} (h : P H) : Lk P H
  | lock {H : Hp} {d : Addr} {u : HO} (h : H d = some u) (m : Mut (some u)) (k : ∀ od, Lk P (upd H d (.frz od u))) : Lk P H
theorem Lk.imp {H : Hp} {P Q : Hp → Prop} (h : Lk P H) (f : ∀ H2, P H2 → Q H2) : Lk Q H := by
  induction h with
  | now h => exact .now (f _ h)
  | lock h m _ ih => exact .lock h m ih
theorem Lk.bind {H : Hp} {P Q : Hp → Prop} (h : Lk P H) (f : ∀ H2, P H2 → Lk Q H2) : Lk Q H := by
  induction h with
  | now h => exact f _ h
  | lock h m _ ih => exact .lock h m ih
theorem Lk.run {X : Cx} {pins : List (Addr × Obj)} {σ : St} {s : Shared} {P : Hp → Prop} {H : Hp} (l : Lk P H) : Inv X pins σ H s → ∃ H2, Inv X pins σ H2 s ∧ P H2 := by
  induction l with
  | now h => exact fun I => ⟨_, I, h⟩
  | lock h m _ ih =>
    intro I
    obtain ⟨od, I2⟩ := I.lock h m
    exact ih od I2
theorem pe_lk {X : Cx} {e : Expr} {t : TE} (h : PE X e t) : PE X e (fun σ H Q => t σ H fun v H' => Lk (Q v) H') := by
  refine ⟨fun pins s σ H Q I hw => ?_⟩
  refine thn (h.run pins s σ _ _ I hw) fun v s1 ⟨x, H1, I2, r, q⟩ => ?_
  obtain ⟨H2, I3, q⟩ := q.run I2
  exact ⟨x, H2, I3, r, q⟩

/-! ### frozen -/
mutual
/-- the tree as data -/
noncomputable def stripT : Dat → Dat
  | .lst l => .lst (stripPs l)
  | .tup l => .tup (stripPs l)
  | .dic l => .dic (stripK l)
  | .dit l => .dit (stripKT l)
  | .obj c l => .obj c (stripF l)
  | .lck d => stripT d
  | d => d
noncomputable def stripP : Dat → Dat
  | .own d => stripT d
  | d => d
noncomputable def stripPs : List Dat → List Dat
  | [] => []
  | d :: l => stripP d :: stripPs l
noncomputable def stripK : List (Key × Dat) → List (Key × Dat)
  | [] => []
  | (k, d) :: l => (k, stripP d) :: stripK l
noncomputable def stripKT : List (List Key × Dat) → List (List Key × Dat)
  | [] => []
  | (k, d) :: l => (k, stripP d) :: stripKT l
noncomputable def stripF : List (Str × Dat) → List (Str × Dat)
  | [] => []
  | (k, d) :: l => (k, stripP d) :: stripF l
end
/-- an owned thing as data -/
noncomputable def dfr : Dat → Dat
  | .own d => stripT d
  | d => d
/-- frozen heap, and with it some of the heap -/
noncomputable def mix (Hf H : Hp) (F : List Addr) : Hp := fun b => if b ∈ F then H b else Hf b
theorem mix_same {Hf H : Hp} {F : List Addr} (n : ∀ b ∈ F, Hf b = none) : Same Hf (mix Hf H F) := fun b o h => by
  unfold mix
  rw [if_neg (fun z => by rw [n b z] at h; cases h)]; exact h
theorem reps_k {K : PySem.W.Frag} {H : Hp} : ∀ {l : List (Key × Dat)} {xs : List (Key × V)}, xs.map (·.1) = l.map (·.1) → Reps K H (stripPs (l.map (·.2))) (xs.map (·.2)) → RepK K H (stripK l) xs
  | [], [], _, _ => .nil
  | [], _ :: _, e, _ => by cases e
  | _ :: _, [], e, _ => by cases e
  | (k, d) :: l, (k', x) :: xs, e, r => by
    have e1 := List.cons.inj e
    have e0 : k' = k := e1.1
    subst e0
    cases r with | cons h r => exact .cons h (reps_k e1.2 r)
theorem reps_t {K : PySem.W.Frag} {H : Hp} : ∀ {l : List (List Key × Dat)} {xs : List (List Key × V)}, xs.map (·.1) = l.map (·.1) → Reps K H (stripPs (l.map (·.2))) (xs.map (·.2)) → RepT K H (stripKT l) xs
  | [], [], _, _ => .nil
  | [], _ :: _, e, _ => by cases e
  | _ :: _, [], e, _ => by cases e
  | (k, d) :: l, (k', x) :: xs, e, r => by
    have e1 := List.cons.inj e
    have e0 : k' = k := e1.1
    subst e0
    cases r with | cons h r => exact .cons h (reps_t e1.2 r)
theorem reps_f {K : PySem.W.Frag} {H : Hp} : ∀ {l : List (Str × Dat)} {xs : List (Str × V)}, xs.map (·.1) = l.map (·.1) → Reps K H (stripPs (l.map (·.2))) (xs.map (·.2)) → RepF K H (stripF l) xs
  | [], [], _, _ => .nil
  | [], _ :: _, e, _ => by cases e
  | _ :: _, [], e, _ => by cases e
  | (k, d) :: l, (k', x) :: xs, e, r => by
    have e1 := List.cons.inj e
    have e0 : k' = k := e1.1
    subst e0
    cases r with | cons h r => exact .cons h (reps_f e1.2 r)
/-- what freezing leaves: the heap off F as it was, on F something -/
structure Frz (Hf H H2 : Hp) (F : List Addr) : Prop where
  off : ∀ b, b ∉ F → H2 b = H b
  on : ∀ b ∈ F, ∃ u, H2 b = some u
theorem same_mix {Hf H2 H3 : Hp} {F G : List Addr} (sub : ∀ b ∈ F, b ∈ G) (n : ∀ b ∈ G, Hf b = none) (k : ∀ b ∈ F, H3 b = H2 b) : Same (mix Hf H2 F) (mix Hf H3 G) := fun b o h => by
  unfold mix at h ⊢
  by_cases q : b ∈ F
  · rw [if_pos q] at h
    rw [if_pos (sub b q), k b q]; exact h
  · rw [if_neg q] at h
    rw [if_neg fun z => by rw [n b z] at h; cases h]; exact h
theorem frz_cons {K : PySem.W.Frag} {Hf H : Hp} {F : List Addr} {a : Addr} {u : HO} {l : List Dat} {xs : List V} {d : Dat} (ha : H a = some u) (n : ∀ b ∈ a :: F, Hf b = none) (na : a ∉ F)
    (q : Lk (fun H2 => Frz Hf H H2 F ∧ Reps K (mix Hf H2 F) l xs) H) (g : ∀ Hg, Hg a = some u → Reps K Hg l xs → Rep K Hg d (.ref a)) : Lk (fun H2 => Frz Hf H H2 (a :: F) ∧ Rep K (mix Hf H2 (a :: F)) d (.ref a)) H := by
  refine q.imp fun H2 ⟨f, r⟩ => ⟨⟨fun b z => f.off b fun z' => z (List.mem_cons_of_mem _ z'), fun b z => ?_⟩, ?_⟩
  · rcases List.mem_cons.mp z with z | z
    · rw [z, f.off a na]; exact ⟨_, ha⟩
    · exact f.on b z
  · refine g _ ?_ (r.mono (same_mix (fun b z => List.mem_cons_of_mem _ z) n fun _ _ => rfl))
    unfold mix
    rw [if_pos (List.mem_cons_self ..), f.off a na]; exact ha
theorem frz_lock {K : PySem.W.Frag} {Hf H : Hp} {F : List Addr} {a : Addr} {u : HO} {l : List Dat} {xs : List V} {d : Dat} (ha : H a = some u) (m : Mut (some u)) (n : ∀ b ∈ a :: F, Hf b = none) (na : a ∉ F)
    (q : Lk (fun H2 => Frz Hf H H2 F ∧ Reps K (mix Hf H2 F) l xs) H) (g : ∀ Hg od, Hg a = some (.frz od u) → Reps K Hg l xs → Rep K Hg d (.ref a)) : Lk (fun H2 => Frz Hf H H2 (a :: F) ∧ Rep K (mix Hf H2 (a :: F)) d (.ref a)) H := by
  refine q.bind fun H2 ⟨f, r⟩ => ?_
  have h2 : H2 a = some u := by rw [f.off a na]; exact ha
  refine .lock h2 m fun od => .now ⟨⟨fun b z => ?_, fun b z => ?_⟩, ?_⟩
  · have y : b ≠ a := fun y => by subst y; exact z (List.mem_cons_self ..)
    rw [upd_ne y]
    exact f.off b fun z' => z (List.mem_cons_of_mem _ z')
  · by_cases y : b = a
    · rw [y, upd_same]; exact ⟨_, rfl⟩
    · rw [upd_ne y]
      exact f.on b ((List.mem_cons.mp z).resolve_left y)
  · refine g _ od ?_ (r.mono (same_mix (fun b z => List.mem_cons_of_mem _ z) n fun b z => upd_ne (fun y : b = a => by subst y; exact na z)))
    unfold mix
    rw [if_pos (List.mem_cons_self ..), upd_same]
mutual
theorem Tr.frzAt {K : PySem.W.Frag} {Hf H : Hp} : ∀ {F : List Addr} {a : Addr} {d : Dat}, Tr K Hf H F a d → (∀ b ∈ F, Hf b = none) → ∀ H1 : Hp, (∀ b ∈ F, H1 b = H b) → Lk (fun H2 => Frz Hf H1 H2 F ∧ Rep K (mix Hf H2 F) (stripT d) (.ref a)) H1
  | _, _, _, .lst h r na, n, H1, g => frz_cons ((g _ (List.mem_cons_self ..)).trans h) n na (Pts.frzAt r (fun b z => n b (List.mem_cons_of_mem _ z)) H1 fun b z => g b (List.mem_cons_of_mem _ z)) fun _ e r => .lst e r
  | _, _, _, .tup h r na, n, H1, g => (Pts.frzAt r n H1 g).imp fun H2 ⟨f, rr⟩ => ⟨f, .tup (.inl (mix_same n _ _ na)) rr⟩
  | _, _, _, .obj h k r na, n, H1, g => frz_cons ((g _ (List.mem_cons_self ..)).trans h) n na (Pts.frzAt r (fun b z => n b (List.mem_cons_of_mem _ z)) H1 fun b z => g b (List.mem_cons_of_mem _ z)) fun _ e r => .obj e (reps_f k r)
  | _, _, _, .dic h k r na, n, H1, g => frz_lock ((g _ (List.mem_cons_self ..)).trans h) trivial n na (Pts.frzAt r (fun b z => n b (List.mem_cons_of_mem _ z)) H1 fun b z => g b (List.mem_cons_of_mem _ z)) fun _ od e r => .dic ⟨od, e⟩ (reps_k k r)
  | _, _, _, .dit h k r na, n, H1, g => frz_lock ((g _ (List.mem_cons_self ..)).trans h) trivial n na (Pts.frzAt r (fun b z => n b (List.mem_cons_of_mem _ z)) H1 fun b z => g b (List.mem_cons_of_mem _ z)) fun _ od e r => .dit ⟨od, e⟩ (reps_t k r)
  | _, _, _, .ldic ⟨o, h⟩ k r na, n, H1, g => frz_cons ((g _ (List.mem_cons_self ..)).trans h) n na (Pts.frzAt r (fun b z => n b (List.mem_cons_of_mem _ z)) H1 fun b z => g b (List.mem_cons_of_mem _ z)) fun _ e r => .dic ⟨o, e⟩ (reps_k k r)
  | _, _, _, .ldit ⟨o, h⟩ k r na, n, H1, g => frz_cons ((g _ (List.mem_cons_self ..)).trans h) n na (Pts.frzAt r (fun b z => n b (List.mem_cons_of_mem _ z)) H1 fun b z => g b (List.mem_cons_of_mem _ z)) fun _ e r => .dit ⟨o, e⟩ (reps_t k r)
theorem Pt.frzAt {K : PySem.W.Frag} {Hf H : Hp} : ∀ {F : List Addr} {v : V} {d : Dat}, Pt K Hf H F v d → (∀ b ∈ F, Hf b = none) → ∀ H1 : Hp, (∀ b ∈ F, H1 b = H b) → Lk (fun H2 => Frz Hf H1 H2 F ∧ Rep K (mix Hf H2 F) (stripP d) v) H1
  | _, _, _, .own t, n, H1, g => Tr.frzAt t n H1 g
  | _, _, d, .fr r, n, H1, g => .now ⟨⟨fun _ _ => rfl, fun b z => nomatch z⟩, by
    have e : stripP d = d := by cases r <;> rfl
    rw [e]
    exact r.mono (mix_same n)⟩
theorem Pts.frzAt {K : PySem.W.Frag} {Hf H : Hp} : ∀ {F : List Addr} {v : List V} {d : List Dat}, Pts K Hf H F v d → (∀ b ∈ F, Hf b = none) → ∀ H1 : Hp, (∀ b ∈ F, H1 b = H b) → Lk (fun H2 => Frz Hf H1 H2 F ∧ Reps K (mix Hf H2 F) (stripPs d) v) H1
  | _, _, _, .nil, n, H1, g => .now ⟨⟨fun _ _ => rfl, fun b z => nomatch z⟩, .nil⟩
  | _, _, _, @Pts.cons _ _ _ F G x d xs l h r dj, n, H1, g => by
    refine (Pt.frzAt h (fun b z => n b (List.mem_append_left _ z)) H1 fun b z => g b (List.mem_append_left _ z)).bind fun H2 ⟨f, rp⟩ => ?_
    refine (Pts.frzAt r (fun b z => n b (List.mem_append_right _ z)) H2 fun b z => (f.off b fun z' => dj b z' z).trans (g b (List.mem_append_right _ z))).imp fun H3 ⟨f3, rs⟩ => ?_
    refine ⟨⟨fun b z => ?_, fun b z => ?_⟩, .cons (rp.mono (same_mix (fun b z => List.mem_append_left _ z) n fun b z => f3.off b (dj b z))) (rs.mono (same_mix (fun b z => List.mem_append_right _ z) n fun _ _ => rfl))⟩
    · rw [f3.off b fun y => z (List.mem_append_right _ y), f.off b fun y => z (List.mem_append_left _ y)]
    · by_cases y : b ∈ G
      · exact f3.on b y
      · rw [f3.off b y]
        exact f.on b ((List.mem_append.mp z).resolve_right y)
end
theorem Tr.freeze {K : PySem.W.Frag} {Hf H : Hp} {F : List Addr} {a : Addr} {d : Dat} (t : Tr K Hf H F a d) (n : ∀ b ∈ F, Hf b = none) : Lk (fun H2 => Frz Hf H H2 F ∧ Rep K (mix Hf H2 F) (stripT d) (.ref a)) H := t.frzAt n H fun _ _ => rfl
theorem dfr_flat {d : Dat} (h : ∀ t, d ≠ .own t) : dfr d = d := by
  cases d <;> first | rfl | exact absurd rfl (h _)
theorem OwnAt.freeze {K : PySem.W.Frag} {Hf H : Hp} {F : List Addr} {a : Addr} {d : Dat} (o : OwnAt K Hf H F a d) (n : ∀ b ∈ F, Hf b = none) : Lk (fun H2 => Frz Hf H H2 F ∧ Rep K (mix Hf H2 F) (dfr d) (.ref a)) H := by
  have m1 : ∀ H2 : Hp, mix Hf H2 [a] a = H2 a := fun H2 => by unfold mix; rw [if_pos (List.mem_singleton_self _)]
  have lk : ∀ {u od} {a : Addr}, Frz Hf H (upd H a (.frz od u)) [a] := fun {u od a} => ⟨fun b z => upd_ne fun y => by subst y; exact z (List.mem_singleton_self _), fun b z => ⟨.frz od u, by rw [List.mem_singleton.mp z]; exact upd_same⟩⟩
  cases o with
  | own t => exact t.freeze n
  | lst h r => exact .now ⟨⟨fun _ _ => rfl, fun b z => ⟨_, (congrArg H (List.mem_singleton.mp z)).trans h⟩⟩, .lst (by rw [m1]; exact h) (r.mono (mix_same n))⟩
  | obj h r => exact .now ⟨⟨fun _ _ => rfl, fun b z => ⟨_, (congrArg H (List.mem_singleton.mp z)).trans h⟩⟩, .obj (by rw [m1]; exact h) (r.mono (mix_same n))⟩
  | dic h r => exact .lock h trivial fun od => .now ⟨lk, .dic ⟨od, by rw [m1]; exact upd_same⟩ (r.mono (mix_same n))⟩
  | dit h r => exact .lock h trivial fun od => .now ⟨lk, .dit ⟨od, by rw [m1]; exact upd_same⟩ (r.mono (mix_same n))⟩

/-- what the slots own -/
noncomputable def Own (K : PySem.W.Frag) (Hf H : Hp) (η : En) (σ : St) (c : Addr) : Prop := ∃ (i : Nat) (d : Dat) (a : Addr) (F : List Addr), η[i]? = some (.ow d) ∧ σ[i]? = some (some (.ref a)) ∧ OwnAt K Hf H F a d ∧ c ∈ F

structure Rl (K : PySem.W.Frag) (Hf H : Hp) (η : En) (σ : St) : Prop where
  ex : Same Hf H
  len : η.length = σ.length
  fr : ∀ (i : Nat) d, η[i]? = some (.fr d) → ∃ v, σ[i]? = some (some v) ∧ Rep K Hf d v
  ow : ∀ (i : Nat) d, η[i]? = some (.ow d) → ∃ a F, σ[i]? = some (some (.ref a)) ∧ OwnAt K Hf H F a d ∧ ∀ b ∈ F, Hf b = none
  ap : ∀ (i j : Nat) d e a b F G c, η[i]? = some (.ow d) → η[j]? = some (.ow e) → σ[i]? = some (some (.ref a)) → σ[j]? = some (some (.ref b)) → OwnAt K Hf H F a d → OwnAt K Hf H G b e → c ∈ F → c ∈ G → i = j

structure Ext (Hf H Hf' H' : Hp) : Prop where
  ef : Same Hf Hf'
  eh : Same H H'
  ex : Same Hf' H'
  nf : ∀ b o, Hf' b = some o → Hf b = some o ∨ H b = none
theorem Ext.refl {Hf H : Hp} (e : Same Hf H) : Ext Hf H Hf H := ⟨.refl _, .refl _, e, fun _ _ h => .inl h⟩
theorem Ext.trans {Hf H Hf1 H1 Hf2 H2 : Hp} (a : Ext Hf H Hf1 H1) (b : Ext Hf1 H1 Hf2 H2) : Ext Hf H Hf2 H2 :=
  ⟨a.ef.trans b.ef, a.eh.trans b.eh, b.ex, fun c o h => by
    rcases b.nf c o h with q | q
    · exact a.nf c o q
    · exact .inr (a.eh.free q)⟩
theorem same_upd {H : Hp} {p : Addr} {u : HO} (n : H p = none) : Same H (upd H p u) := fun b o h => by rw [upd_ne (ne_of_none h n)]; exact h
/-- a new frozen object -/
theorem Ext.new {Hf H : Hp} {p : Addr} {u : HO} (e : Same Hf H) (n : H p = none) : Ext Hf H (upd Hf p u) (upd H p u) := by
  have nf : Hf p = none := e.free n
  refine ⟨same_upd nf, same_upd n, fun b o h => ?_, fun b o h => ?_⟩
  · by_cases q : b = p
    · subst q; rw [upd_same] at h ⊢; exact h
    · rw [upd_ne q] at h ⊢; exact e _ _ h
  · by_cases q : b = p
    · subst q; exact .inr n
    · rw [upd_ne q] at h; exact .inl h
section
variable {K : PySem.W.Frag} {Hf H Hf' H' : Hp} {η : En} {σ : St}
/-- the slots' things after a change that leaves what they own -/
theorem Rl.ownNow (R : Rl K Hf H η σ) (ef : Same Hf Hf') (ex : Same Hf' H') {i : Nat} {d : Dat} {a : Addr} {F : List Addr} (h : η[i]? = some (.ow d)) (hs : σ[i]? = some (some (.ref a))) (o : OwnAt K Hf' H' F a d) (k : ∀ G, OwnAt K Hf H G a d → ∀ b ∈ G, ∀ u, H b = some u → H' b = some u) : OwnAt K Hf H F a d := by
  obtain ⟨a', G, h1, h2, h3⟩ := R.ow i d h
  rw [hs] at h1; cases h1
  rw [o.uniq (h2.mono ef ex (k G h2))]; exact h2
theorem Own.ofExt (R : Rl K Hf H η σ) (e : Ext Hf H Hf' H') {c : Addr} : Own K Hf' H' η σ c → Own K Hf H η σ c := fun ⟨i, d, a, F, h1, h2, h3, h4⟩ =>
  ⟨i, d, a, F, h1, h2, R.ownNow e.ef e.ex h1 h2 h3 fun _ _ b _ u hu => e.eh _ _ hu, h4⟩
theorem Own.there (h : Own K Hf H η σ c) : ∃ u, H c = some u := by
  obtain ⟨i, d, a, F, h1, h2, h3, h4⟩ := h
  exact h3.there c h4
theorem Own.kind {c : Addr} {u : HO} (h : Own K Hf H η σ c) (e : H c = some u) : OwnK u := by
  obtain ⟨i, d, a, F, h1, h2, h3, h4⟩ := h
  exact h3.kind c h4 u e
/-- more is frozen: off what the slots own -/
theorem Rl.more {Hf2 : Hp} (R : Rl K Hf H η σ) (ef : Same Hf Hf2) (ex : Same Hf2 H) (n : ∀ b, Own K Hf H η σ b → Hf2 b = none) : Rl K Hf2 H η σ ∧ ∀ b, Own K Hf2 H η σ b → Own K Hf H η σ b := by
  have now : ∀ i d a F, η[i]? = some (Sl.ow d) → σ[i]? = some (some (V.ref a)) → OwnAt K Hf2 H F a d → OwnAt K Hf H F a d := fun i d a F h1 h2 h3 => R.ownNow ef ex h1 h2 h3 fun _ _ b _ u hu => hu
  refine ⟨⟨ex, R.len, fun i d h => ?_, fun i d h => ?_, fun i j d e a b F G c h1 h2 h3 h4 h5 h6 => R.ap i j d e a b F G c h1 h2 h3 h4 (now i d a F h1 h3 h5) (now j e b G h2 h4 h6)⟩, fun b ⟨i, d, a, F, h1, h2, h3, h4⟩ => ⟨i, d, a, F, h1, h2, now i d a F h1 h2 h3, h4⟩⟩
  · obtain ⟨v, h1, h2⟩ := R.fr i d h
    exact ⟨v, h1, h2.mono ef⟩
  · obtain ⟨a, F, h1, h2, h3⟩ := R.ow i d h
    exact ⟨a, F, h1, h2.mono ef ex fun b _ u hu => hu, fun b hb => n b ⟨i, d, a, F, h, h1, h2, hb⟩⟩
theorem own_none {c : Addr} (n : H c = none) : ¬ Own K Hf H η σ c := fun z => by
  obtain ⟨u, hu⟩ := z.there
  rw [n] at hu; cases hu
theorem Rl.ext (R : Rl K Hf H η σ) (e : Ext Hf H Hf' H') : Rl K Hf' H' η σ where
  ex := e.ex
  len := R.len
  fr := fun i d h => let ⟨v, a, b⟩ := R.fr i d h; ⟨v, a, b.mono e.ef⟩
  ow := fun i d h => by
    obtain ⟨a, F, h1, h2, h3⟩ := R.ow i d h
    refine ⟨a, F, h1, h2.mono e.ef e.ex fun b _ u h => e.eh _ _ h, fun b hb => ?_⟩
    cases q : Hf' b with
    | none => rfl
    | some u =>
      rcases e.nf b u q with z | z
      · rw [h3 b hb] at z; cases z
      · obtain ⟨w, hw⟩ := h2.there b hb
        rw [hw] at z; cases z
  ap := fun i j d e' a b F G c h1 h2 h3 h4 h5 h6 => R.ap i j d e' a b F G c h1 h2 h3 h4 (R.ownNow e.ef e.ex h1 h3 h5 fun _ _ b _ u hu => e.eh _ _ hu) (R.ownNow e.ef e.ex h2 h4 h6 fun _ _ b _ u hu => e.eh _ _ hu)
end

structure Stp (K : PySem.W.Frag) (np : Nat) (Hf H : Hp) (η : En) (σ : St) (Hf' H' : Hp) (η' : En) (σ' : St) : Prop where
  ef : Same Hf Hf'
  fr : ∀ b o, H b = some o → ¬ Own K Hf H η σ b → H' b = some o
  nn : ∀ b, H' b = none → H b = none
  ow : ∀ b, Own K Hf' H' η' σ' b → Own K Hf H η σ b ∨ H b = none
  nf : ∀ b o, Hf' b = some o → Hf b = some o ∨ H b = none ∨ Own K Hf H η σ b
  pr : ∀ (i : Nat) d', i < np → η'[i]? = some (.ow d') → (∃ d, η[i]? = some (.ow d)) ∧ σ'[i]? = σ[i]?
theorem Stp.refl {K : PySem.W.Frag} {np : Nat} {Hf H : Hp} {η : En} {σ : St} : Stp K np Hf H η σ Hf H η σ :=
  ⟨.refl _, fun _ _ h _ => h, fun _ h => h, fun _ h => .inl h, fun _ _ h => .inl h, fun _ d _ h => ⟨⟨d, h⟩, rfl⟩⟩
theorem Stp.ofExt {K : PySem.W.Frag} {np : Nat} {Hf H Hf' H' : Hp} {η : En} {σ : St} (R : Rl K Hf H η σ) (e : Ext Hf H Hf' H') : Stp K np Hf H η σ Hf' H' η σ :=
  ⟨e.ef, fun _ _ h _ => e.eh _ _ h, fun _ h => e.eh.free h, fun _ h => .inl (Own.ofExt R e h), fun b o h => (e.nf b o h).elim .inl fun q => .inr (.inl q), fun _ d _ h => ⟨⟨d, h⟩, rfl⟩⟩
theorem Stp.trans {K : PySem.W.Frag} {np : Nat} {Hf H Hf1 H1 Hf2 H2 : Hp} {η η1 η2 : En} {σ σ1 σ2 : St} (a : Stp K np Hf H η σ Hf1 H1 η1 σ1) (b : Stp K np Hf1 H1 η1 σ1 Hf2 H2 η2 σ2) : Stp K np Hf H η σ Hf2 H2 η2 σ2 where
  ef := a.ef.trans b.ef
  fr := fun c o h n => b.fr c o (a.fr c o h n) fun q => by
    rcases a.ow c q with z | z
    · exact n z
    · rw [h] at z; cases z
  nn := fun c h => a.nn c (b.nn c h)
  ow := fun c h => by
    rcases b.ow c h with z | z
    · exact a.ow c z
    · exact .inr (a.nn c z)
  nf := fun c o h => by
    rcases b.nf c o h with z | z | z
    · exact a.nf c o z
    · exact .inr (.inl (a.nn c z))
    · rcases a.ow c z with y | y
      · exact .inr (.inr y)
      · exact .inr (.inl y)
  pr := fun i d' hi h => by
    obtain ⟨⟨d, q⟩, e⟩ := b.pr i d' hi h
    obtain ⟨p, e'⟩ := a.pr i d hi q
    exact ⟨p, e.trans e'⟩
/-- new, or owned ahead -/
noncomputable def Nw (K : PySem.W.Frag) (Hf H : Hp) (η : En) (σ : St) (b : Addr) : Prop := H b = none ∨ Own K Hf H η σ b
theorem Nw.from {K : PySem.W.Frag} {np : Nat} {Hf H Hf1 H1 : Hp} {η η1 : En} {σ σ1 : St} (S : Stp K np Hf H η σ Hf1 H1 η1 σ1) {b : Addr} (h : Nw K Hf1 H1 η1 σ1 b) : Nw K Hf H η σ b :=
  h.elim (fun z => .inl (S.nn b z)) fun z => (S.ow b z).elim .inr .inl
/-- new or owned ahead, not frozen, no slot's now -/
noncomputable def Fsh (K : PySem.W.Frag) (Hf0 H0 : Hp) (η0 : En) (σ0 : St) (Hf H : Hp) (η : En) (σ : St) (F : List Addr) : Prop := ∀ b ∈ F, Nw K Hf0 H0 η0 σ0 b ∧ Hf b = none ∧ ¬ Own K Hf H η σ b
section
variable {K : PySem.W.Frag} {np : Nat} {Hf0 H0 Hf H Hf1 H1 : Hp} {η0 η η1 : En} {σ0 σ σ1 : St} {F : List Addr} {p : Addr}
theorem Fsh.one (n1 : Nw K Hf0 H0 η0 σ0 p) (n2 : Hf p = none) (no : ¬ Own K Hf H η σ p) : Fsh K Hf0 H0 η0 σ0 Hf H η σ [p] := fun b z => by
  rw [List.mem_singleton.mp z]; exact ⟨n1, n2, no⟩
theorem Fsh.from (S : Stp K np Hf0 H0 η0 σ0 Hf1 H1 η1 σ1) (f : Fsh K Hf1 H1 η1 σ1 Hf H η σ F) : Fsh K Hf0 H0 η0 σ0 Hf H η σ F := fun b z => ⟨(f b z).1.from S, (f b z).2⟩
end

/-! ### the mirror's monad -/
structure Xc where
  cls : Str
  pay : Option (List (Str × Dat))
inductive Rs (α : Type) where
  | ok (a : α) (η : En) | rs (x : Xc) (η : En) | bad
noncomputable abbrev M (α : Type) := En → Rs α
noncomputable def ret {α : Type} (a : α) : M α := fun η => .ok a η
noncomputable def bnd {α β : Type} (m : M α) (f : α → M β) : M β := fun η => match m η with
  | .ok a η' => f a η'
  | .rs x η' => .rs x η'
  | .bad => .bad
noncomputable def lft {α : Type} (o : Option α) : M α := fun η => match o with
  | some a => .ok a η
  | none => .bad
noncomputable def stk {α : Type} : M α := fun _ => .bad

/-- an exception's own dict -/
noncomputable def PayAt (K : PySem.W.Frag) (H0 Hf H : Hp) (x : Xc) (dx : Option Addr) : Prop := match x.pay with
  | none => dx = none
  | some fs => ∃ d vs, dx = some d ∧ H0 d = none ∧ H d = some (.xd vs) ∧ Hf d = none ∧ vs.map (·.1) = fs.map (·.1) ∧ Reps K Hf (fs.map (·.2)) (vs.map (·.2))
theorem PayAt.from {K : PySem.W.Frag} {H0 H1 Hf H : Hp} {x : Xc} {dx : Option Addr} (h : PayAt K H1 Hf H x dx) (n : ∀ b, H1 b = none → H0 b = none) : PayAt K H0 Hf H x dx := by
  unfold PayAt at h ⊢
  split at h
  · exact h
  · obtain ⟨d, vs, h1, h2, h3⟩ := h
    exact ⟨d, vs, h1, n _ h2, h3⟩

/-- what is wanted behind -/
noncomputable def Pst {α : Type} (K : PySem.W.Frag) (np : Nat) (W : WX) (Hf H : Hp) (η : En) (σ : St) (R : α → Hp → Hp → En → St → Prop) : Rs α → Prop
  | .ok a η' => ∀ Hf' H' σ', Rl K Hf' H' η' σ' → Stp K np Hf H η σ Hf' H' η' σ' → R a Hf' H' η' σ'
  | .rs x η' => ∀ Hf' H' σ' dx, Rl K Hf' H' η' σ' → Stp K np Hf H η σ Hf' H' η' σ' → PayAt K H Hf' H' x dx → W (.ref (He.ga K x.cls)) dx σ' H'
  | .bad => False
section
variable {α β : Type} {K : PySem.W.Frag} {np : Nat} {W : WX} {Hf H Hf1 H1 : Hp} {η η1 : En} {σ σ1 : St}
theorem Pst.after {R : α → Hp → Hp → En → St → Prop} {r : Rs α} (S : Stp K np Hf H η σ Hf1 H1 η1 σ1) (p : Pst K np W Hf H η σ R r) : Pst K np W Hf1 H1 η1 σ1 R r := by
  cases r with
  | ok a η' => exact fun Hf' H' σ' r s => p Hf' H' σ' r (S.trans s)
  | rs x η' => exact fun Hf' H' σ' dx r s q => p Hf' H' σ' dx r (S.trans s) (q.from S.nn)
  | bad => exact p
/-- one step of a mirror, then the rest -/
theorem Pst.bnd {m : M α} {f : α → M β} {R : β → Hp → Hp → En → St → Prop} {R1 : α → Hp → Hp → En → St → Prop} (p : Pst K np W Hf H η σ R (bnd m f η))
    (h : ∀ a Hf1 H1 η1 σ1, Rl K Hf1 H1 η1 σ1 → Stp K np Hf H η σ Hf1 H1 η1 σ1 → Pst K np W Hf1 H1 η1 σ1 R (f a η1) → R1 a Hf1 H1 η1 σ1) : Pst K np W Hf H η σ R1 (m η) := by
  unfold D.bnd at p
  cases e : m η with
  | ok a η' =>
    rw [e] at p
    exact fun Hf' H' σ' r s => h a Hf' H' η' σ' r s (Pst.after s p)
  | rs x η' =>
    rw [e] at p
    exact p
  | bad =>
    rw [e] at p
    exact p
theorem Pst.ret {R : α → Hp → Hp → En → St → Prop} {a : α} (r : Rl K Hf H η σ) (p : Pst K np W Hf H η σ R (ret a η)) : R a Hf H η σ := p Hf H σ r .refl
theorem Pst.lft {R : α → Hp → Hp → En → St → Prop} {o : Option α} (r : Rl K Hf H η σ) (p : Pst K np W Hf H η σ R (lft o η)) : ∃ a, o = some a ∧ ∀ Hf' H', Ext Hf H Hf' H' → R a Hf' H' η σ := by
  unfold D.lft at p
  cases o with
  | none => exact False.elim p
  | some a => exact ⟨a, rfl, fun Hf' H' e => p Hf' H' σ (r.ext e) (.ofExt r e)⟩
theorem Pst.bndL {o : Option α} {f : α → M β} {R : β → Hp → Hp → En → St → Prop} (p : Pst K np W Hf H η σ R (D.bnd (D.lft o) f η)) : ∃ a, o = some a ∧ Pst K np W Hf H η σ R (f a η) := by
  cases o with
  | none => exact False.elim p
  | some a => exact ⟨a, rfl, p⟩
end

/-! ### readings -/
noncomputable def RV (K : PySem.W.Frag) (σ : St) (Q : VK) : Dat → Hp → Hp → En → St → Prop := fun d Hf' H' _ σ' => σ' = σ → ∀ v, Rep K Hf' d v → Q v H'
noncomputable def rdE (K : PySem.W.Frag) (np : Nat) (W : WX) (m : M Dat) : TE := fun σ H Q => ∃ Hf η, Rl K Hf H η σ ∧ Pst K np W Hf H η σ (fun d Hf' H' _ σ' => σ' = σ → ∀ v, Rep K Hf' d v → Q v H') (m η)
noncomputable def rdO (K : PySem.W.Frag) (np : Nat) (W : WX) (m : M Dat) : TE := fun σ H Q => ∃ Hf η, Rl K Hf H η σ ∧ Pst K np W Hf H η σ (fun d Hf' H' η' σ' => σ' = σ → ∀ p, Nw K Hf H η σ p → Hf' p = none → OwnF K Hf' H' p d → ¬ Own K Hf' H' η' σ' p → Q (.ref p) H') (m η)
noncomputable def rdT (K : PySem.W.Frag) (np : Nat) (W : WX) (m : M Bool) : TT := fun σ H Q => ∃ Hf η, Rl K Hf H η σ ∧ Pst K np W Hf H η σ (fun b _ H' _ σ' => σ' = σ → Q b H') (m η)
/-- an argument: a value, or an owned slot handed on -/
inductive Ai where
  | va (d : Dat) | io (i : Nat)
inductive Ais (K : PySem.W.Frag) (Hf : Hp) (σ : St) : List Ai → List V → Prop where
  | nil : Ais K Hf σ [] []
  | va {d : Dat} {v : V} {l : List Ai} {vs : List V} (h : Rep K Hf d v) (r : Ais K Hf σ l vs) : Ais K Hf σ (.va d :: l) (v :: vs)
  | io {i : Nat} {v : V} {l : List Ai} {vs : List V} (h : σ[i]? = some (some v)) (r : Ais K Hf σ l vs) : Ais K Hf σ (.io i :: l) (v :: vs)
noncomputable def rdA (K : PySem.W.Frag) (np : Nat) (W : WX) (m : M (List Ai)) : TA := fun σ H Q => ∃ Hf η, Rl K Hf H η σ ∧ Pst K np W Hf H η σ (fun as Hf' H' _ σ' => σ' = σ → ∀ vs, Ais K Hf' σ as vs → Q vs H') (m η)
inductive Out where
  | nx | rt (d : Dat) | ro (d : Dat) | bk | ct
noncomputable def endS (K : PySem.W.Frag) (Hf H : Hp) (η : En) (σ : St) (E : Ends) : Out → Hp → Hp → En → St → Prop
  | .nx, _, H', _, σ' => E.nx σ' H'
  | .rt d, Hf', H', _, _ => ∀ v, Rep K Hf' d v → E.rt v H'
  | .ro d, Hf', H', η', σ' => ∀ p F, OwnAt K Hf' H' F p d → Fsh K Hf H η σ Hf' H' η' σ' F → E.rt (.ref p) H'
  | .bk, _, H', _, σ' => E.bk σ' H'
  | .ct, _, H', _, σ' => E.ct σ' H'
theorem endS.mono {K : PySem.W.Frag} {np : Nat} {Hf H Hf1 H1 Hf' H' : Hp} {η η1 η' : En} {σ σ1 σ' : St} {E : Ends} {o : Out} (S : Stp K np Hf H η σ Hf1 H1 η1 σ1) (h : endS K Hf H η σ E o Hf' H' η' σ') : endS K Hf1 H1 η1 σ1 E o Hf' H' η' σ' := by
  cases o with
  | nx => exact h
  | rt d => exact h
  | ro d => exact fun p F o q => h p F o (q.from S)
  | bk => exact h
  | ct => exact h
noncomputable def rdS (K : PySem.W.Frag) (np : Nat) (W : WX) (m : M Out) : TS := fun E σ H => ∃ Hf η, Rl K Hf H η σ ∧ Pst K np W Hf H η σ (endS K Hf H η σ E) (m η)

/-- a value, or an owned thing that is only looked at -/
noncomputable def RepP (K : PySem.W.Frag) (Hf H : Hp) (d : Dat) (v : V) : Prop := Rep K Hf d v ∨ ∃ a F, v = .ref a ∧ OwnAt K Hf H F a d
noncomputable def rdP (K : PySem.W.Frag) (np : Nat) (W : WX) (m : M Dat) : TE := fun σ H Q => ∃ Hf η, Rl K Hf H η σ ∧ Pst K np W Hf H η σ (fun d Hf' H' _ σ' => σ' = σ → ∀ v, RepP K Hf' H' d v → Q v H') (m η)
noncomputable abbrev DP (X : Cx) (W : WX) (np : Nat) (e : Expr) (m : M Dat) : Prop := PE X e (rdP X.K np W m)
noncomputable abbrev DE (X : Cx) (W : WX) (np : Nat) (e : Expr) (m : M Dat) : Prop := PE X e (rdE X.K np W m)
noncomputable abbrev DO (X : Cx) (W : WX) (np : Nat) (e : Expr) (m : M Dat) : Prop := PE X e (rdO X.K np W m)
noncomputable abbrev DT (X : Cx) (W : WX) (np : Nat) (e : Expr) (m : M Bool) : Prop := PT X e (rdT X.K np W m)
noncomputable abbrev DA (X : Cx) (W : WX) (np : Nat) (es : List Expr) (m : M (List Ai)) : Prop := PA X es (rdA X.K np W m)
noncomputable abbrev DS (X : Cx) (W : WX) (np : Nat) (st : Stmt) (m : M Out) : Prop := PS X st (rdS X.K np W m)
noncomputable abbrev DB (X : Cx) (W : WX) (np : Nat) (st : List Stmt) (m : M Out) : Prop := PSs X st (rdS X.K np W m)

theorem PE.wk {X : Cx} {e : Expr} {t t' : TE} (h : PE X e t) (w : ∀ σ H Q, t' σ H Q → t σ H Q) : PE X e t' := ⟨fun pins s σ H Q I q => h.run pins s σ H Q I (w σ H Q q)⟩
theorem PT.wk {X : Cx} {e : Expr} {t t' : TT} (h : PT X e t) (w : ∀ σ H Q, t' σ H Q → t σ H Q) : PT X e t' := ⟨fun pins s σ H Q I q => h.run pins s σ H Q I (w σ H Q q)⟩
theorem PA.wk {X : Cx} {e : List Expr} {t t' : TA} (h : PA X e t) (w : ∀ σ H Q, t' σ H Q → t σ H Q) : PA X e t' := ⟨fun pos pins s σ H Q I q => h.run pos pins s σ H Q I (w σ H Q q)⟩
theorem PS.wk {X : Cx} {st : Stmt} {t t' : TS} (h : PS X st t) (w : ∀ E σ H, t' E σ H → t E σ H) : PS X st t' := ⟨fun pins s σ H E I q => h.run pins s σ H E I (w E σ H q)⟩
theorem PSs.wk {X : Cx} {st : List Stmt} {t t' : TS} (h : PSs X st t) (w : ∀ E σ H, t' E σ H → t E σ H) : PSs X st t' := ⟨fun pins s σ H E I q => h.run pins s σ H E I (w E σ H q)⟩
end D

namespace D
open PySem L2

/-! ### lists and so on, looked at -/
section
variable {K : PySem.W.Frag} {Hf H : Hp} {d : Dat} {v : V}
theorem RepP.int {i : Int} (r : RepP K Hf H (.int i) v) : v = .int i := by
  rcases r with r | ⟨a, F, rfl, r⟩
  · cases r; rfl
  · cases r
theorem RepP.str {i : Str} (r : RepP K Hf H (.str i) v) : v = .str i := by
  rcases r with r | ⟨a, F, rfl, r⟩
  · cases r; rfl
  · cases r
theorem RepP.bl {i : Bool} (r : RepP K Hf H (.bl i) v) : v = .bl i := by
  rcases r with r | ⟨a, F, rfl, r⟩
  · cases r; rfl
  · cases r
theorem RepP.non (r : RepP K Hf H .non v) : v = .non := by
  rcases r with r | ⟨a, F, rfl, r⟩
  · cases r; rfl
  · cases r
theorem RepP.ty {n : String} (r : RepP K Hf H (.ty n) v) : v = .ty n := by
  rcases r with r | ⟨a, F, rfl, r⟩
  · cases r; rfl
  · cases r
theorem RepP.tup {l : List Dat} (e : Same Hf H) (r : RepP K Hf H (.tup l) v) : ∃ a xs, v = .ref a ∧ TupAt K H a xs ∧ Reps K Hf l xs := by
  rcases r with r | ⟨a, F, rfl, r⟩
  · cases r with | tup h r => exact ⟨_, _, rfl, h.mono e, r⟩
  · cases r
theorem RepP.lst {l : List Dat} (e : Same Hf H) (r : RepP K Hf H (.lst l) v) : ∃ a xs, v = .ref a ∧ H a = some (.lst xs) ∧ Reps K Hf l xs := by
  rcases r with r | ⟨a, F, rfl, r⟩
  · cases r with | lst h r => exact ⟨_, _, rfl, e _ _ h, r⟩
  · cases r with | lst h r => exact ⟨_, _, rfl, h, r⟩
theorem RepP.scr {l : List Dat} (e : Same Hf H) (r : RepP K Hf H (.scr l) v) : ∃ a xs, v = .ref a ∧ SqL K H a xs ∧ Reps K Hf l xs := by
  rcases r with r | ⟨a, F, rfl, r⟩
  · cases r with | scr h r => exact ⟨_, _, rfl, e.seq h, r⟩
  · cases r
theorem RepP.dic {l : List (Key × Dat)} (e : Same Hf H) (r : RepP K Hf H (.dic l) v) : ∃ a xs, v = .ref a ∧ Rd H a (.dK xs) ∧ RepK K Hf l xs := by
  rcases r with r | ⟨a, F, rfl, r⟩
  · cases r with | dic h r => obtain ⟨o, h⟩ := h; exact ⟨_, _, rfl, .inr ⟨o, e _ _ h⟩, r⟩
  · cases r with | dic h r => exact ⟨_, _, rfl, .inl h, r⟩
end

/-! ### operations by values -/
noncomputable def fits (n : Nat) : Bool := decide (n ≤ 1000000)
theorem fits_le {n : Nat} (h : fits n = true) : n ≤ sizeLine := Nat.le_trans (of_decide_eq_true h) (by decide)
theorem fits_lt {n : Nat} (h : fits n = true) : n < sizeLine := Nat.lt_of_le_of_lt (of_decide_eq_true h) (by decide)
noncomputable def Op2 (K : PySem.W.Frag) (r : R2) (g : Dat → Dat → Option Dat) : Prop := ∀ (Hf H : Hp) (x y : V) (dx dy d : Dat), Same Hf H → RepP K Hf H dx x → RepP K Hf H dy y → g dx dy = some d →
  ∀ Q : VK, (∀ v Hf' H', Ext Hf H Hf' H' → Rep K Hf' d v → Q v H') → r x y H Q
noncomputable def OpB (K : PySem.W.Frag) (r : R2) (g : Dat → Dat → Option Bool) : Prop := ∀ (Hf H : Hp) (x y : V) (dx dy : Dat) (b : Bool), Same Hf H → RepP K Hf H dx x → RepP K Hf H dy y → g dx dy = some b →
  ∀ Q : VK, Q (.bl b) H → r x y H Q
/-- a call by values; the last argument may be looked at only -/
inductive RepsP (K : PySem.W.Frag) (Hf H : Hp) : List Dat → List V → Prop where
  | nil : RepsP K Hf H [] []
  | one {d : Dat} {v : V} (h : RepP K Hf H d v) : RepsP K Hf H [d] [v]
  | cons {d : Dat} {v : V} {l : List Dat} {vs : List V} (h : Rep K Hf d v) (r : RepsP K Hf H l vs) : RepsP K Hf H (d :: l) (v :: vs)
noncomputable def OpC (K : PySem.W.Frag) (r : List V → Hp → VK → Prop) (g : List Dat → Option Dat) : Prop := ∀ (Hf H : Hp) (xs : List V) (ds : List Dat) (d : Dat), Same Hf H → RepsP K Hf H ds xs → g ds = some d →
  ∀ Q : VK, (∀ v Hf' H', Ext Hf H Hf' H' → Rep K Hf' d v → Q v H') → r xs H Q
/-- .. a new list or dict, owned -/
noncomputable def OpO (K : PySem.W.Frag) (r : List V → Hp → VK → Prop) (g : List Dat → Option Dat) : Prop := ∀ (Hf H : Hp) (xs : List V) (ds : List Dat) (d : Dat), Same Hf H → RepsP K Hf H ds xs → g ds = some d →
  ∀ Q : VK, (∀ p H', H p = none → Same H H' → OwnF K Hf H' p d → Q (.ref p) H') → r xs H Q

noncomputable def mVar (i : Nat) : M Dat := fun η => match η[i]? with
  | some (.fr d) => .ok d η
  | some (.ow d) => .ok (dfr d) (η.set i (.fr (dfr d)))
  | _ => .bad
noncomputable def mPeek (i : Nat) : M Dat := fun η => match η[i]? with
  | some (.fr d) => .ok d η
  | some (.ow d) => .ok d η
  | _ => .bad

section
variable {K : PySem.W.Frag} {np : Nat} {W : WX} {Hf H : Hp} {η : En} {σ : St}
theorem set_get {α : Type} {l : List α} {i j : Nat} {a b : α} (h : (l.set i a)[j]? = some b) : (j = i ∧ b = a) ∨ (j ≠ i ∧ l[j]? = some b) := by
  by_cases e : j = i
  · subst e
    by_cases hj : j < l.length
    · rw [List.getElem?_set_self hj] at h; exact .inl ⟨rfl, (Option.some.inj h).symm⟩
    · rw [List.getElem?_eq_none_iff.mpr (by rw [List.length_set]; omega)] at h; cases h
  · rw [List.getElem?_set_ne (Ne.symm e)] at h
    exact .inr ⟨e, h⟩
/-- what other slots own, when one thing is frozen -/
theorem frz_agree {F : List Addr} {H2 : Hp} (f : Frz Hf H H2 F) {G : List Addr} (dj : ∀ b ∈ G, b ∉ F) : ∀ b ∈ G, H2 b = H b := fun b z => f.off b (dj b z)
/-- an owned thing is frozen -/
theorem Rl.freeze {i : Nat} {d : Dat} (R : Rl K Hf H η σ) (h : η[i]? = some (.ow d)) : ∃ a, σ[i]? = some (some (.ref a)) ∧ Lk (fun H2 => ∃ Hf2, Rep K Hf2 (dfr d) (.ref a) ∧ Rl K Hf2 H2 (η.set i (.fr (dfr d))) σ ∧ Stp K np Hf H η σ Hf2 H2 (η.set i (.fr (dfr d))) σ) H := by
  obtain ⟨a, F, h1, h2, h3⟩ := R.ow i d h
  refine ⟨a, h1, (h2.freeze h3).imp fun H2 ⟨f, r⟩ => ?_⟩
  have sf : Same Hf (mix Hf H2 F) := mix_same h3
  have sx : Same (mix Hf H2 F) H2 := fun b o q => by
    unfold mix at q
    by_cases z : b ∈ F
    · rw [if_pos z] at q; exact q
    · rw [if_neg z] at q; rw [f.off b z]; exact R.ex _ _ q
  -- another slot's thing: off F
  have dj : ∀ (j : Nat) (e : Dat) (b : Addr) (G : List Addr), j ≠ i → η[j]? = some (.ow e) → σ[j]? = some (some (.ref b)) → OwnAt K Hf H G b e → ∀ c ∈ G, c ∉ F := fun j e b G ne q q1 q2 c g1 g2 => ne (R.ap j i e d b a G F c q h q1 h1 q2 h2 g1 g2)
  have now : ∀ (j : Nat) (e : Dat) (b : Addr) (G : List Addr), j ≠ i → η[j]? = some (.ow e) → σ[j]? = some (some (.ref b)) → OwnAt K (mix Hf H2 F) H2 G b e → OwnAt K Hf H G b e := fun j e b G ne q q1 q2 =>
    R.ownNow sf sx q q1 q2 fun G' o c hc u hu => by rw [f.off c (dj j e b G' ne q q1 o c hc)]; exact hu
  have sl : ∀ (j : Nat) (e : Dat), (η.set i (.fr (dfr d)))[j]? = some (.ow e) → j ≠ i ∧ η[j]? = some (.ow e) := fun j e q => by
    rcases set_get q with ⟨_, q⟩ | q
    · cases q
    · exact q
  refine ⟨mix Hf H2 F, r, ⟨fun b o q => ?_, by rw [List.length_set]; exact R.len, fun j e q => ?_, fun j e q => ?_, fun j k e g b c G G' x q1 q2 q3 q4 q5 q6 => ?_⟩, ⟨sf, fun b o q n => ?_, fun b q => ?_, fun b ⟨j, e, c, G, q1, q2, q3, q4⟩ => ?_, fun b o q => ?_, fun j e hj q => ⟨⟨e, (sl j e q).2⟩, rfl⟩⟩⟩
  · unfold mix at q
    by_cases z : b ∈ F
    · rw [if_pos z] at q; exact q
    · rw [if_neg z] at q; rw [f.off b z]; exact R.ex _ _ q
  · rcases set_get q with ⟨ej, q⟩ | ⟨_, q⟩
    · cases q; rw [ej]; exact ⟨_, h1, r⟩
    · obtain ⟨v, q1, q2⟩ := R.fr j e q
      exact ⟨v, q1, q2.mono sf⟩
  · obtain ⟨ne, q'⟩ := sl j e q
    obtain ⟨b, G, q1, q2, q3⟩ := R.ow j e q'
    have dj := dj j e b G ne q' q1 q2
    refine ⟨b, G, q1, q2.mono sf sx fun c hc u hu => by rw [f.off c (dj c hc)]; exact hu, fun c hc => ?_⟩
    unfold mix
    rw [if_neg (dj c hc)]; exact q3 c hc
  · obtain ⟨n1, g1⟩ := sl j e q1
    obtain ⟨n2, g2⟩ := sl k g q2
    exact R.ap j k e g b c G G' x g1 g2 q3 q4 (now j e b G n1 g1 q3 q5) (now k g c G' n2 g2 q4 q6)
  · have z : b ∉ F := fun z => n ⟨i, d, a, F, h, h1, h2, z⟩
    rw [f.off b z]; exact q
  · by_cases z : b ∈ F
    · obtain ⟨u, hu⟩ := f.on b z
      rw [hu] at q; cases q
    · rwa [f.off b z] at q
  · obtain ⟨n1, g1⟩ := sl j e q1
    exact .inl ⟨j, e, c, G, g1, q2, now j e c G n1 g1 q2 q3, q4⟩
  · unfold mix at q
    by_cases z : b ∈ F
    · exact .inr (.inr ⟨i, d, a, F, h, h1, h2, z⟩)
    · rw [if_neg z] at q; exact .inl q
end

section
variable {X : Cx} {W : WX} {np : Nat} {a b c e : Expr} {es : List Expr} {pos : Pos} {ma mb mc : M Dat} {mt mu : M Bool}

theorem de_var (i : Nat) {x : Str} (h : PE X (.Name x pos) (tVar i)) : DE X W np (.Name x pos) (mVar i) := by
  refine PE.wk (pe_lk h) fun σ H Q ⟨Hf, η, R, p⟩ => ?_
  unfold mVar at p
  split at p
  · rename_i d hd
    obtain ⟨v, h1, h2⟩ := R.fr i d hd
    exact ⟨v, h1, .now (p Hf H σ R .refl rfl v h2)⟩
  · rename_i d hd
    obtain ⟨a, h1, lk⟩ := R.freeze (np := np) hd
    exact ⟨_, h1, lk.imp fun H2 ⟨Hf2, h2, h3, h4⟩ => p _ H2 σ h3 h4 rfl _ h2⟩
  · exact False.elim p
theorem dp_var (i : Nat) {x : Str} (h : PE X (.Name x pos) (tVar i)) : DP X W np (.Name x pos) (mPeek i) := by
  refine PE.wk h fun σ H Q ⟨Hf, η, R, p⟩ => ?_
  unfold mPeek at p
  split at p
  · rename_i d hd
    obtain ⟨v, h1, h2⟩ := R.fr i d hd
    exact ⟨v, h1, p Hf H σ R .refl rfl v (.inl h2)⟩
  · rename_i d hd
    obtain ⟨a, F, h1, h2, h3⟩ := R.ow i d hd
    exact ⟨_, h1, p _ H σ R .refl rfl _ (.inr ⟨a, F, rfl, h2⟩)⟩
  · exact False.elim p
theorem dp (h : DE X W np e ma) : DP X W np e ma := by
  refine PE.wk h fun σ H Q ⟨Hf, η, R, p⟩ => ⟨Hf, η, R, ?_⟩
  cases z : ma η with
  | ok d η' => rw [z] at p; exact fun Hf' H' σ' r s q v rv => p Hf' H' σ' r s q v (.inl rv)
  | rs x η' => rw [z] at p; exact p
  | bad => rw [z] at p; exact p
/-- what was made is frozen -/
theorem freezeNew {K : PySem.W.Frag} {Hf H Hf' H' : Hp} {η η' : En} {σ σ' : St} {pa : Addr} {F : List Addr} {d : Dat} (r : Rl K Hf' H' η' σ') (s : Stp K np Hf H η σ Hf' H' η' σ') (o : OwnAt K Hf' H' F pa d) (fs : Fsh K Hf H η σ Hf' H' η' σ' F) :
    Lk (fun H2 => ∃ Hf2, Rl K Hf2 H2 η' σ' ∧ Stp K np Hf H η σ Hf2 H2 η' σ' ∧ Rep K Hf2 (dfr d) (.ref pa)) H' := by
  refine (o.freeze fun b z => (fs b z).2.1).imp fun H2 ⟨f, rp⟩ => ?_
  have sf : Same Hf' (mix Hf' H2 F) := mix_same fun b z => (fs b z).2.1
  have sx : Same (mix Hf' H2 F) H2 := fun b o q => by
    unfold mix at q
    by_cases z : b ∈ F
    · rw [if_pos z] at q; exact q
    · rw [if_neg z] at q; rw [f.off b z]; exact r.ex _ _ q
  have dj : ∀ (j : Nat) (e : Dat) (b : Addr) (G : List Addr), η'[j]? = some (.ow e) → σ'[j]? = some (some (.ref b)) → OwnAt K Hf' H' G b e → ∀ c ∈ G, c ∉ F := fun j e b G q q1 q2 c g1 g2 => (fs c g2).2.2 ⟨j, e, b, G, q, q1, q2, g1⟩
  have now : ∀ (j : Nat) (e : Dat) (b : Addr) (G : List Addr), η'[j]? = some (.ow e) → σ'[j]? = some (some (.ref b)) → OwnAt K (mix Hf' H2 F) H2 G b e → OwnAt K Hf' H' G b e := fun j e b G q q1 q2 =>
    r.ownNow sf sx q q1 q2 fun G' o c hc u hu => by rw [f.off c (dj j e b G' q q1 o c hc)]; exact hu
  refine ⟨mix Hf' H2 F, ⟨fun b o q => ?_, r.len, fun j e q => ?_, fun j e q => ?_, fun j k e g b c G G' x q1 q2 q3 q4 q5 q6 => ?_⟩, ⟨s.ef.trans sf, fun b o q n => ?_, fun b q => ?_, fun b ⟨j, e, c, G, q1, q2, q3, q4⟩ => s.ow b ⟨j, e, c, G, q1, q2, now j e c G q1 q2 q3, q4⟩, fun b o q => ?_, s.pr⟩, rp⟩
  · unfold mix at q
    by_cases z : b ∈ F
    · rw [if_pos z] at q; exact q
    · rw [if_neg z] at q; rw [f.off b z]; exact r.ex _ _ q
  · obtain ⟨v, q1, q2⟩ := r.fr j e q
    exact ⟨v, q1, q2.mono sf⟩
  · obtain ⟨b, G, q1, q2, q3⟩ := r.ow j e q
    have dj := dj j e b G q q1 q2
    refine ⟨b, G, q1, q2.mono sf sx fun c hc u hu => by rw [f.off c (dj c hc)]; exact hu, fun c hc => ?_⟩
    unfold mix
    rw [if_neg (dj c hc)]; exact q3 c hc
  · exact r.ap j k e g b c G G' x q1 q2 q3 q4 (now j e b G q1 q3 q5) (now k g c G' q2 q4 q6)
  · have z : b ∉ F := fun z => (fs b z).1.elim (fun y => by rw [y] at q; cases q) n
    rw [f.off b z]; exact s.fr _ _ q n
  · by_cases z : b ∈ F
    · obtain ⟨u, hu⟩ := f.on b z
      rw [hu] at q; cases q
    · rw [f.off b z] at q; exact s.nn _ q
  · unfold mix at q
    by_cases z : b ∈ F
    · exact .inr (fs b z).1
    · rw [if_neg z] at q; exact s.nf _ _ q
theorem de_of (h : DO X W np e ma) : DE X W np e ma := by
  refine PE.wk (pe_lk h) fun σ H Q ⟨Hf, η, R, p⟩ => ⟨Hf, η, R, ?_⟩
  cases z : ma η with
  | ok d η' =>
    rw [z] at p
    intro Hf' H' σ' r s q pa n1 n2 o no
    have f := freezeNew r s o.1 (.one n1 n2 no)
    rw [dfr_flat o.2] at f
    exact f.imp fun H2 ⟨Hf2, r2, s2, rp⟩ => p Hf2 H2 σ' r2 s2 q _ rp
  | rs x η' => rw [z] at p; exact p
  | bad => rw [z] at p; exact p
/-- a constant -/
theorem de_c {v : V} {d : Dat} (h : PE X e (tC v)) (r : ∀ Hf, Rep X.K Hf d v) : DE X W np e (ret d) :=
  PE.wk h fun σ H Q ⟨Hf, η, R, p⟩ => p Hf H σ R .refl rfl v (r Hf)
theorem de_int {i : Int} {j : Nat} : DE X W np (.Constant (.int i) j pos) (ret (.int i)) := de_c pe_int fun _ => .int
theorem de_str {i : Str} {j : Nat} : DE X W np (.Constant (.str i) j pos) (ret (.str i)) := de_c pe_str fun _ => .str
theorem de_bl {i : Bool} {j : Nat} : DE X W np (.Constant (.bool i) j pos) (ret (.bl i)) := de_c pe_bl fun _ => .bl
theorem de_non {j : Nat} : DE X W np (.Constant .none j pos) (ret .non) := de_c pe_non fun _ => .non

/-! ### operators -/
theorem de_op {op : Operator} {r : R2} {g : Dat → Dat → Option Dat} (ho : OpR X (binaryOp op) r) (hs : Op2 X.K r g) (ha : DE X W np a ma) (hb : DP X W np b mb) :
    DE X W np (.BinOp a op b pos) (bnd ma fun x => bnd mb fun y => lft (g x y)) := by
  refine PE.wk (pe_op ho ha hb) fun σ H Q ⟨Hf, η, R, p⟩ => ?_
  refine ⟨Hf, η, R, p.bnd fun x Hf1 H1 η1 σ1 R1 S1 p1 e1 v rv => ?_⟩
  subst e1
  refine ⟨Hf1, η1, R1, p1.bnd fun y Hf2 H2 η2 σ2 R2 S2 p2 e2 u ru => ?_⟩
  subst e2
  obtain ⟨d, hd, q⟩ := p2.lft R2
  exact hs Hf2 H2 v u x y d R2.ex (.inl (rv.mono S2.ef)) ru hd Q fun w Hf' H' e r => q Hf' H' e rfl w r
theorem de_cmp {op : CmpOp} {r : R2} {g : Dat → Dat → Option Bool} (ho : OpR X (compareOp op) r) (hs : OpB X.K r g) (ha : DE X W np a ma) (hb : DP X W np b mb) (hm : behindInMarks op b = false) :
    DE X W np (.Compare a [op] [b] pos) (bnd ma fun x => bnd mb fun y => bnd (lft (g x y)) fun k => ret (.bl k)) := by
  refine PE.wk (pe_cmpR ho ha hb hm) fun σ H Q ⟨Hf, η, R, p⟩ => ?_
  refine ⟨Hf, η, R, p.bnd fun x Hf1 H1 η1 σ1 R1 S1 p1 e1 v rv => ?_⟩
  subst e1
  refine ⟨Hf1, η1, R1, p1.bnd fun y Hf2 H2 η2 σ2 R2 S2 p2 e2 u ru => ?_⟩
  subst e2
  obtain ⟨k, hk, q⟩ := p2.bndL
  exact hs Hf2 H2 v u x y k R2.ex (.inl (rv.mono S2.ef)) ru hk Q (q.ret R2 rfl _ .bl)
theorem dt_cmp {op : CmpOp} {r : R2} {g : Dat → Dat → Option Bool} (ho : OpR X (compareOp op) r) (hs : OpB X.K r g) (ha : DE X W np a ma) (hb : DP X W np b mb) (hm : behindInMarks op b = false) :
    DT X W np (.Compare a [op] [b] pos) (bnd ma fun x => bnd mb fun y => lft (g x y)) := by
  refine PT.wk (pt_cmpR ho ha hb hm) fun σ H Q ⟨Hf, η, R, p⟩ => ?_
  refine ⟨Hf, η, R, p.bnd fun x Hf1 H1 η1 σ1 R1 S1 p1 e1 v rv => ?_⟩
  subst e1
  refine ⟨Hf1, η1, R1, p1.bnd fun y Hf2 H2 η2 σ2 R2 S2 p2 e2 u ru => ?_⟩
  subst e2
  obtain ⟨k, hk, q⟩ := p2.lft R2
  exact hs Hf2 H2 v u x y k R2.ex (.inl (rv.mono S2.ef)) ru hk _ ⟨k, rfl, q Hf2 H2 (.refl R2.ex) rfl⟩
noncomputable def mTrue : M Bool := ret true
/-- a < b < c -/
theorem de_chain {op op' : CmpOp} {r r' : R2} {g g' : Dat → Dat → Option Bool} (ho : OpR X (compareOp op) r) (ho' : OpR X (compareOp op') r') (hs : OpB X.K r g) (hs' : OpB X.K r' g') (ha : DE X W np a ma) (hb : DE X W np b mb) (hc : DE X W np c mc)
    (hm : lastMarks [op, op'] [b, c] = false := by with_unfolding_all rfl) :
    DE X W np (.Compare a [op, op'] [b, c] pos) (bnd ma fun x => bnd mb fun y => bnd (lft (g x y)) fun k => if k then bnd mc fun z => bnd (lft (g' y z)) fun k => ret (.bl k) else ret (.bl false)) := by
  refine PE.wk (pe_chain ho ho' ha hb hc hm) fun σ H Q ⟨Hf, η, R, p⟩ => ?_
  refine ⟨Hf, η, R, p.bnd fun x Hf1 H1 η1 σ1 R1 S1 p1 e1 v rv => ?_⟩
  subst e1
  refine ⟨Hf1, η1, R1, p1.bnd fun y Hf2 H2 η2 σ2 R2 S2 p2 e2 u ru => ?_⟩
  subst e2
  obtain ⟨k, hk, p4⟩ := p2.bndL
  refine hs Hf2 H2 v u x y k R2.ex (.inl (rv.mono S2.ef)) (.inl ru) hk _ ⟨k, rfl, ?_⟩
  cases k with
  | false =>
    show Q (.bl false) H2
    exact p4.ret R2 rfl _ .bl
  | true =>
    show rdE X.K np W mc _ H2 fun w' H4 => r' u w' H4 Q
    refine ⟨Hf2, η2, R2, Pst.bnd p4 fun z Hf3 H3 η3 σ3 R3 S3 p5 e3 w rw => ?_⟩
    subst e3
    obtain ⟨k, hk, q⟩ := p5.bndL
    exact hs' Hf3 H3 u w y z k R3.ex (.inl (ru.mono S3.ef)) (.inl rw) hk Q (q.ret R3 rfl _ .bl)
theorem dt_chain {op op' : CmpOp} {r r' : R2} {g g' : Dat → Dat → Option Bool} (ho : OpR X (compareOp op) r) (ho' : OpR X (compareOp op') r') (hs : OpB X.K r g) (hs' : OpB X.K r' g') (ha : DE X W np a ma) (hb : DE X W np b mb) (hc : DE X W np c mc)
    (hm : lastMarks [op, op'] [b, c] = false := by with_unfolding_all rfl) :
    DT X W np (.Compare a [op, op'] [b, c] pos) (bnd ma fun x => bnd mb fun y => bnd (lft (g x y)) fun k => if k then bnd mc fun z => lft (g' y z) else ret false) := by
  refine PT.wk (pt_chain ho ho' ha hb hc hm) fun σ H Q ⟨Hf, η, R, p⟩ => ?_
  refine ⟨Hf, η, R, p.bnd fun x Hf1 H1 η1 σ1 R1 S1 p1 e1 v rv => ?_⟩
  subst e1
  refine ⟨Hf1, η1, R1, p1.bnd fun y Hf2 H2 η2 σ2 R2 S2 p2 e2 u ru => ?_⟩
  subst e2
  obtain ⟨k, hk, p4⟩ := p2.bndL
  refine hs Hf2 H2 v u x y k R2.ex (.inl (rv.mono S2.ef)) (.inl ru) hk _ ⟨k, rfl, ?_⟩
  cases k with
  | false => exact ⟨false, rfl, p4.ret R2 rfl⟩
  | true =>
    show rdE X.K np W mc _ H2 fun w' H4 => r' u w' H4 fun x H' => ∃ k, x = .bl k ∧ Q k H'
    refine ⟨Hf2, η2, R2, Pst.bnd p4 fun z Hf3 H3 η3 σ3 R3 S3 p5 e3 w rw => ?_⟩
    subst e3
    obtain ⟨k, hk, q⟩ := p5.lft R3
    exact hs' Hf3 H3 u w y z k R3.ex (.inl (ru.mono S3.ef)) (.inl rw) hk _ ⟨k, rfl, q Hf3 H3 (.refl R3.ex) rfl⟩

/-! ### tests -/
noncomputable def dTru : Dat → Option Bool
  | .non => some false
  | .bl b => some b
  | .int i => some (i != 0)
  | .str s => if fits s.length then some ((s.length : Int) != 0) else none
  | .tup l => some (!l.isEmpty)
  | .lst l => some (!l.isEmpty)
  | .scr l => some (!l.isEmpty)
  | _ => none
noncomputable def dBool : Dat → Option Bool
  | .bl b => some b
  | _ => none
theorem isEmpty_reps {K : PySem.W.Frag} {H : Hp} {l : List Dat} {xs : List V} (r : Reps K H l xs) : l.isEmpty = xs.isEmpty := by cases r <;> rfl
theorem isEmpty_repk {K : PySem.W.Frag} {H : Hp} {l : List (Key × Dat)} {xs : List (Key × V)} (r : RepK K H l xs) : l.isEmpty = xs.isEmpty := by cases r <;> rfl
theorem dTru_ok {K : PySem.W.Frag} {Hf H : Hp} {d : Dat} {v : V} {k : Bool} (e : Same Hf H) (r : RepP K Hf H d v) (h : dTru d = some k) : TruV K v H k := by
  cases d with
  | non => cases r.non; cases h; rfl
  | bl b => cases r.bl; cases h; rfl
  | int i => cases r.int; cases h; rfl
  | str s =>
    cases r.str
    change (if fits s.length = true then some ((s.length : Int) != 0) else none) = some k at h
    by_cases z : fits s.length = true
    · rw [if_pos z] at h; cases h; exact ⟨fits_le z, rfl⟩
    · rw [if_neg z] at h; cases h
  | ty n => cases h
  | adr n => cases h
  | tup l => obtain ⟨a, xs, rfl, h1, h2⟩ := r.tup e; cases h; exact .inr (.inl ⟨xs, h1.sq, by rw [isEmpty_reps h2]⟩)
  | lst l => obtain ⟨a, xs, rfl, h1, h2⟩ := r.lst e; cases h; exact .inl ⟨xs, .of h1, by rw [isEmpty_reps h2]⟩
  | scr l => obtain ⟨a, xs, rfl, h1, h2⟩ := r.scr e; cases h; exact .inl ⟨xs, h1, by rw [isEmpty_reps h2]⟩
  | dic l => cases h
  | glo n => cases h
  | obj n l => cases h
  | exn a d n l => cases h
  | dit l => cases h
  | own l => cases h
  | lck l => cases h
/-- an expression of any kind as a test -/
theorem dt_val (h : DP X W np e ma) (he : ∀ whole, isTrue e X.env whole = (do let v ← whole; standAt e.pos; holding [v] (truthy v)) := by intro _; rfl) : DT X W np e (bnd ma fun x => lft (dTru x)) := by
  refine PT.wk (pt_truth h he) fun σ H Q ⟨Hf, η, R, p⟩ => ⟨Hf, η, R, p.bnd fun x Hf1 H1 η1 σ1 R1 S1 p1 e1 v rv => ?_⟩
  obtain ⟨k, hk, q⟩ := p1.lft R1
  exact ⟨k, dTru_ok R1.ex rv hk, q Hf1 H1 (.refl R1.ex) e1⟩
theorem dt_not (h : DT X W np e mt) : DT X W np (.UnaryOp .Not e pos) (bnd mt fun k => ret (!k)) := by
  refine PT.wk (pt_not h) fun σ H Q ⟨Hf, η, R, p⟩ => ⟨Hf, η, R, p.bnd fun x Hf1 H1 η1 σ1 R1 S1 p1 e1 => p1.ret R1 e1⟩
/-- chains of and, or -/
noncomputable abbrev DW (X : Cx) (W : WX) (np : Nat) (e : Expr) (m : M Bool) : Prop := PW X e (rdT X.K np W m)
theorem PW.wk {X : Cx} {e : Expr} {t t' : TT} (h : PW X e t) (w : ∀ σ H Q, t' σ H Q → t σ H Q) : PW X e t' := ⟨fun wh pins s σ H Q I q => h.run wh pins s σ H Q I (w σ H Q q)⟩
theorem dw_and1 (h : DT X W np a mt) : DW X W np (.BoolOp .And [a] pos) mt := pw_and1 h
theorem dw_or1 (h : DT X W np a mt) : DW X W np (.BoolOp .Or [a] pos) mt := pw_or1 h
variable {rest : List Expr}
theorem dw_and (ha : DT X W np a mt) (hb : DW X W np (.BoolOp .And (b :: rest) pos) mu) : DW X W np (.BoolOp .And (a :: b :: rest) pos) (bnd mt fun k => if k then mu else ret false) := by
  refine PW.wk (pw_and ha hb) fun σ H Q ⟨Hf, η, R, p⟩ => ⟨Hf, η, R, p.bnd fun k Hf1 H1 η1 σ1 R1 S1 p1 e1 => ?_⟩
  subst e1
  cases k with
  | true => exact ⟨Hf1, η1, R1, p1⟩
  | false => exact p1.ret R1 rfl
theorem dw_or (ha : DT X W np a mt) (hb : DW X W np (.BoolOp .Or (b :: rest) pos) mu) : DW X W np (.BoolOp .Or (a :: b :: rest) pos) (bnd mt fun k => if k then ret true else mu) := by
  refine PW.wk (pw_or ha hb) fun σ H Q ⟨Hf, η, R, p⟩ => ⟨Hf, η, R, p.bnd fun k Hf1 H1 η1 σ1 R1 S1 p1 e1 => ?_⟩
  subst e1
  cases k with
  | false => exact ⟨Hf1, η1, R1, p1⟩
  | true => exact p1.ret R1 rfl
theorem dt_w (h : DW X W np e mt) : DT X W np e mt := PW.pt h
/-- as values: bools -/
theorem de_one {op : BoolOp} (h : DE X W np a ma) : DE X W np (.BoolOp op [a] pos) ma := pe_one h
theorem de_and (ha : DE X W np a ma) (hb : DE X W np (.BoolOp .And (b :: rest) pos) mb) : DE X W np (.BoolOp .And (a :: b :: rest) pos) (bnd ma fun x => bnd (lft (dBool x)) fun k => if k then mb else ret (.bl false)) := by
  refine PE.wk (pe_and ha hb) fun σ H Q ⟨Hf, η, R, p⟩ => ⟨Hf, η, R, p.bnd fun x Hf1 H1 η1 σ1 R1 S1 p1 e1 v rv => ?_⟩
  subst e1
  obtain ⟨k, hk, p4⟩ := p1.bndL
  cases x <;> first | (cases hk; done) | skip
  cases hk
  cases rv
  refine ⟨k, rfl, ?_⟩
  cases k with
  | true => exact ⟨Hf1, η1, R1, p4⟩
  | false => exact p4.ret R1 rfl _ .bl
theorem de_or (ha : DE X W np a ma) (hb : DE X W np (.BoolOp .Or (b :: rest) pos) mb) : DE X W np (.BoolOp .Or (a :: b :: rest) pos) (bnd ma fun x => bnd (lft (dBool x)) fun k => if k then ret (.bl true) else mb) := by
  refine PE.wk (pe_or ha hb) fun σ H Q ⟨Hf, η, R, p⟩ => ⟨Hf, η, R, p.bnd fun x Hf1 H1 η1 σ1 R1 S1 p1 e1 v rv => ?_⟩
  subst e1
  obtain ⟨k, hk, p4⟩ := p1.bndL
  cases x <;> first | (cases hk; done) | skip
  cases hk
  cases rv
  refine ⟨k, rfl, ?_⟩
  cases k with
  | false => exact ⟨Hf1, η1, R1, p4⟩
  | true => exact p4.ret R1 rfl _ .bl
theorem de_not (ha : DE X W np a ma) : DE X W np (.UnaryOp .Not a pos) (bnd ma fun x => bnd (lft (dBool x)) fun k => ret (.bl (!k))) := by
  refine PE.wk (pe_not ha) fun σ H Q ⟨Hf, η, R, p⟩ => ⟨Hf, η, R, p.bnd fun x Hf1 H1 η1 σ1 R1 S1 p1 e1 v rv => ?_⟩
  subst e1
  obtain ⟨k, hk, q⟩ := p1.bndL
  have p4 := q.ret R1 rfl _ .bl
  cases x <;> first | (cases hk; done) | skip
  cases hk
  cases rv
  exact ⟨k, rfl, p4⟩
theorem de_if (ht : DT X W np c mt) (ha : DE X W np a ma) (hb : DE X W np b mb) : DE X W np (.IfExp c a b pos) (bnd mt fun k => if k then ma else mb) := by
  refine PE.wk (pe_ifExp ht ha hb) fun σ H Q ⟨Hf, η, R, p⟩ => ⟨Hf, η, R, p.bnd fun k Hf1 H1 η1 σ1 R1 S1 p1 e1 => ?_⟩
  subst e1
  cases k with
  | true => exact ⟨Hf1, η1, R1, p1⟩
  | false => exact ⟨Hf1, η1, R1, p1⟩
end
end D

namespace D
open PySem L2

/-! ### arithmetic -/
noncomputable def dAdd : Dat → Dat → Option Dat
  | .int i, .int j => some (.int (i + j))
  | .str i, .str j => if fits (i.length + j.length) then some (.str (i ++ j)) else none
  | .lst i, .lst j => if fits (i.length + j.length) then some (.lst (i ++ j)) else none
  | _, _ => none
noncomputable def rAdd3 : R2 := fun x y H Q => rI0 (fun i j => .int (i + j)) x y H Q ∨ (∃ i j, x = .str i ∧ y = .str j ∧ i.length + j.length ≤ sizeLine ∧ Q (.str (i ++ j)) H) ∨ rCat x y H Q
theorem op_add3 {X : Cx} : OpR X (binaryOp .Add) rAdd3 := op_add.or (op_add_str.or op_cat)
theorem dAdd_ok {K : PySem.W.Frag} : Op2 K rAdd3 dAdd := by
  intro Hf H x y dx dy d e rx ry h Q q
  unfold dAdd at h
  split at h
  · cases h; cases rx.int; cases ry.int
    exact .inl ⟨_, _, rfl, rfl, q _ Hf H (.refl e) .int⟩
  · split at h
    · rename_i z; cases h; cases rx.str; cases ry.str
      exact .inr (.inl ⟨_, _, rfl, rfl, fits_le z, q _ Hf H (.refl e) .str⟩)
    · cases h
  · split at h
    · rename_i z; cases h
      obtain ⟨a, xs, rfl, h1, h2⟩ := rx.lst e
      obtain ⟨b, ys, rfl, h3, h4⟩ := ry.lst e
      refine .inr (.inr ⟨a, b, xs, ys, rfl, rfl, h1, h3, by rw [← h2.length, ← h4.length]; exact fits_le z, fun p hp => ?_⟩)
      have ex := Ext.new (u := .lst (xs ++ ys)) e hp
      exact q _ _ _ ex (.lst upd_same ((h2.append h4).mono ex.ef))
    · cases h
  · cases h
noncomputable def dSub : Dat → Dat → Option Dat
  | .int i, .int j => some (.int (i - j))
  | _, _ => none
theorem dSub_ok {K : PySem.W.Frag} : Op2 K (rI0 fun i j => .int (i - j)) dSub := by
  intro Hf H x y dx dy d e rx ry h Q q
  unfold dSub at h
  split at h
  · cases h; cases rx.int; cases ry.int
    exact ⟨_, _, rfl, rfl, q _ Hf H (.refl e) .int⟩
  · cases h
instance (i j : Int) : Decidable (CMul i j) := by unfold CMul; infer_instance
noncomputable def dMul : Dat → Dat → Option Dat
  | .int i, .int j => if CMul i j then some (.int (i * j)) else none
  | _, _ => none
theorem dMul_ok {K : PySem.W.Frag} : Op2 K (rI CMul fun i j => .int (i * j)) dMul := by
  intro Hf H x y dx dy d e rx ry h Q q
  unfold dMul at h
  split at h
  · split at h
    · rename_i z; cases h; cases rx.int; cases ry.int
      exact ⟨_, _, rfl, rfl, z, q _ Hf H (.refl e) .int⟩
    · cases h
  · cases h
noncomputable def dMod : Dat → Dat → Option Dat
  | .int i, .int j => if 0 < j then some (.int (i % j)) else none
  | _, _ => none
theorem dMod_ok {K : PySem.W.Frag} : Op2 K (rI (fun _ j => 0 < j) fun i j => .int (i % j)) dMod := by
  intro Hf H x y dx dy d e rx ry h Q q
  unfold dMod at h
  split at h
  · split at h
    · rename_i z; cases h; cases rx.int; cases ry.int
      exact ⟨_, _, rfl, rfl, z, q _ Hf H (.refl e) .int⟩
    · cases h
  · cases h
noncomputable def dDiv : Dat → Dat → Option Dat
  | .int i, .int j => if 0 < j ∧ j < 2 ^ 200 then some (.int (i / j)) else none
  | _, _ => none
theorem dDiv_ok {K : PySem.W.Frag} : Op2 K (rI CDivW fun i j => .int (i / j)) dDiv := by
  intro Hf H x y dx dy d e rx ry h Q q
  unfold dDiv at h
  split at h
  · split at h
    · rename_i z; cases h; cases rx.int; cases ry.int
      refine ⟨_, _, rfl, rfl, wide_div (b := 200) z.1 ?_ (by decide) (by decide), q _ Hf H (.refl e) .int⟩
      rename_i j
      have h2 : (j.natAbs : Int) < ((2 ^ 200 : Nat) : Int) := by
        have : (2 : Int) ^ 200 = ((2 ^ 200 : Nat) : Int) := by norm_cast
        omega
      exact Int.ofNat_lt.mp h2
    · cases h
  · cases h
instance (i j : Int) : Decidable (CPow i j) := by unfold CPow; infer_instance
noncomputable def dPow : Dat → Dat → Option Dat
  | .int i, .int j => if CPow i j then some (.int (i ^ j.toNat)) else none
  | _, _ => none
theorem dPow_ok {K : PySem.W.Frag} : Op2 K (rI CPow fun i j => .int (i ^ j.toNat)) dPow := by
  intro Hf H x y dx dy d e rx ry h Q q
  unfold dPow at h
  split at h
  · split at h
    · rename_i z; cases h; cases rx.int; cases ry.int
      exact ⟨_, _, rfl, rfl, z, q _ Hf H (.refl e) .int⟩
    · cases h
  · cases h

/-! ### comparisons -/
noncomputable def dLt : Dat → Dat → Option Bool
  | .int i, .int j => some (decide (i < j))
  | .str i, .str j => some (decide (i.cps.toList < j.cps.toList))
  | _, _ => none
noncomputable def rLt2 : R2 := fun x y H Q => rI0 (fun i j => .bl (decide (i < j))) x y H Q ∨ ∃ i j, x = .str i ∧ y = .str j ∧ Q (.bl (decide (i.cps.toList < j.cps.toList))) H
theorem op_lt2 {X : Cx} : OpR X (compareOp .Lt) rLt2 := op_lt.or op_lt_str
theorem dLt_ok {K : PySem.W.Frag} : OpB K rLt2 dLt := by
  intro Hf H x y dx dy b e rx ry h Q q
  unfold dLt at h
  split at h
  · cases h; cases rx.int; cases ry.int; exact .inl ⟨_, _, rfl, rfl, q⟩
  · cases h; cases rx.str; cases ry.str; exact .inr ⟨_, _, rfl, rfl, q⟩
  · cases h
noncomputable def dLe : Dat → Dat → Option Bool
  | .int i, .int j => some (decide (i ≤ j))
  | .str i, .str j => some (!decide (j.cps.toList < i.cps.toList))
  | _, _ => none
noncomputable def rLe2 : R2 := fun x y H Q => rI0 (fun i j => .bl (decide (i ≤ j))) x y H Q ∨ ∃ i j, x = .str i ∧ y = .str j ∧ Q (.bl (!decide (j.cps.toList < i.cps.toList))) H
theorem op_le2 {X : Cx} : OpR X (compareOp .LtE) rLe2 := op_le.or op_le_str
theorem dLe_ok {K : PySem.W.Frag} : OpB K rLe2 dLe := by
  intro Hf H x y dx dy b e rx ry h Q q
  unfold dLe at h
  split at h
  · cases h; cases rx.int; cases ry.int; exact .inl ⟨_, _, rfl, rfl, q⟩
  · cases h; cases rx.str; cases ry.str; exact .inr ⟨_, _, rfl, rfl, q⟩
  · cases h
noncomputable def dGt : Dat → Dat → Option Bool
  | .int i, .int j => some (decide (j < i))
  | .str i, .str j => some (decide (j.cps.toList < i.cps.toList))
  | _, _ => none
noncomputable def rGt2 : R2 := fun x y H Q => rI0 (fun i j => .bl (decide (j < i))) x y H Q ∨ ∃ i j, x = .str i ∧ y = .str j ∧ Q (.bl (decide (j.cps.toList < i.cps.toList))) H
theorem op_gt2 {X : Cx} : OpR X (compareOp .Gt) rGt2 := op_gt.or op_gt_str
theorem dGt_ok {K : PySem.W.Frag} : OpB K rGt2 dGt := by
  intro Hf H x y dx dy b e rx ry h Q q
  unfold dGt at h
  split at h
  · cases h; cases rx.int; cases ry.int; exact .inl ⟨_, _, rfl, rfl, q⟩
  · cases h; cases rx.str; cases ry.str; exact .inr ⟨_, _, rfl, rfl, q⟩
  · cases h
noncomputable def dGe : Dat → Dat → Option Bool
  | .int i, .int j => some (decide (j ≤ i))
  | .str i, .str j => some (!decide (i.cps.toList < j.cps.toList))
  | _, _ => none
noncomputable def rGe2 : R2 := fun x y H Q => rI0 (fun i j => .bl (decide (j ≤ i))) x y H Q ∨ ∃ i j, x = .str i ∧ y = .str j ∧ Q (.bl (!decide (i.cps.toList < j.cps.toList))) H
theorem op_ge2 {X : Cx} : OpR X (compareOp .GtE) rGe2 := op_ge.or op_ge_str
theorem dGe_ok {K : PySem.W.Frag} : OpB K rGe2 dGe := by
  intro Hf H x y dx dy b e rx ry h Q q
  unfold dGe at h
  split at h
  · cases h; cases rx.int; cases ry.int; exact .inl ⟨_, _, rfl, rfl, q⟩
  · cases h; cases rx.str; cases ry.str; exact .inr ⟨_, _, rfl, rfl, q⟩
  · cases h

/-! ### equality -/
mutual
noncomputable def toPy : Dat → Option PyData
  | .non => some .none
  | .bl b => some (.bool b)
  | .int i => some (.int i)
  | .str s => some (.str s)
  | .tup l => (toPys l).map .tuple
  | .lst l => (toPys l).map .list
  | .ty _ => none
  | .scr _ => none
  | .dic _ => none
  | .adr _ => none
  | .glo _ => none
  | .obj _ _ => none
  | .exn _ _ _ _ => none
  | .dit _ => none
  | .own _ => none
  | .lck _ => none
noncomputable def toPys : List Dat → Option (List PyData)
  | [] => some []
  | d :: l => (toPy d).bind fun p => (toPys l).map fun ps => p :: ps
end
mutual
theorem toPy_ok {K : PySem.W.Frag} {H : Hp} : ∀ (d : Dat) (v : V) (p : PyData), Rep K H d v → toPy d = some p → Dp K H v p
  | .non, _, _, .non, h => by rw [toPy] at h; cases h; exact .non
  | .bl b, _, _, .bl, h => by rw [toPy] at h; cases h; exact .bl b
  | .int i, _, _, .int, h => by rw [toPy] at h; cases h; exact .int i
  | .str s, _, _, .str, h => by rw [toPy] at h; cases h; exact .str s
  | .tup l, _, p, .tup h1 r, h => by
    rw [toPy] at h
    cases e : toPys l with
    | none => rw [e] at h; cases h
    | some ps => rw [e] at h; cases h; exact .tup h1.sq (toPys_ok l _ ps r e)
  | .lst l, _, p, .lst h1 r, h => by
    rw [toPy] at h
    cases e : toPys l with
    | none => rw [e] at h; cases h
    | some ps => rw [e] at h; cases h; exact .lst (SqL.of h1) (toPys_ok l _ ps r e)
  | .adr a, _, p, .adr, h => by rw [toPy] at h; cases h
  | .glo a, _, p, .glo, h => by rw [toPy] at h; cases h
theorem toPys_ok {K : PySem.W.Frag} {H : Hp} : ∀ (d : List Dat) (v : List V) (p : List PyData), Reps K H d v → toPys d = some p → DpAll K H v p
  | [], _, _, .nil, h => by rw [toPys] at h; cases h; exact .nil
  | d :: l, _, p, .cons h1 r, h => by
    rw [toPys] at h
    cases e1 : toPy d with
    | none => rw [e1] at h; cases h
    | some q =>
      cases e2 : toPys l with
      | none => rw [e1, e2] at h; cases h
      | some ps => rw [e1, e2] at h; cases h; exact .cons (toPy_ok d _ q h1 e1) (toPys_ok l _ ps r e2)
end
theorem toPyP_ok {K : PySem.W.Frag} {Hf H : Hp} (e : Same Hf H) {d : Dat} {v : V} {p : PyData} (r : RepP K Hf H d v) (h : toPy d = some p) : Dp K H v p := by
  rcases r with r | ⟨a, F, rfl, r⟩
  · exact toPy_ok d v p (r.mono e) h
  · cases r with
    | lst h1 r =>
      rename_i l xs
      rw [toPy] at h
      cases e2 : toPys l with
      | none => rw [e2] at h; cases h
      | some ps => rw [e2] at h; cases h; exact .lst (SqL.of h1) (toPys_ok l _ ps (r.mono e) e2)
    | dic h1 r => rw [toPy] at h; cases h
    | obj h1 r => rw [toPy] at h; cases h
    | dit h1 r => rw [toPy] at h; cases h
    | own t => rw [toPy] at h; cases h
noncomputable def flatD : Dat → Option V
  | .non => some .non
  | .bl b => some (.bl b)
  | .int i => some (.int i)
  | .str s => some (.str s)
  | _ => none
noncomputable def dEqS : Dat → Dat → Option Bool
  | .non, .non => some true
  | .non, .int _ => some false | .int _, .non => some false | .non, .bl _ => some false | .bl _, .non => some false | .non, .str _ => some false | .str _, .non => some false
  | .int i, .int j => some (decide (i = j)) | .bl i, .bl j => some (decide (i = j)) | .str i, .str j => some (decide (i = j))
  | .int _, .str _ => some false | .str _, .int _ => some false | .bl _, .str _ => some false | .str _, .bl _ => some false
  | _, _ => none
noncomputable def dEqD (x y : Dat) : Option Bool := match toPy x, toPy y with
  | some p, some q => if SeqAt.shaped p = true ∧ SeqAt.shaped q = true then some (PyData.eqv p q) else none
  | _, _ => none
noncomputable def dEq (x y : Dat) : Option Bool := match dEqS x y with
  | some b => some b
  | none => dEqD x y
theorem decV {a b : V} {p : Prop} [Decidable p] (h : p ↔ a = b) : decide p = decide (a = b) := by
  by_cases q : p
  · rw [decide_eq_true q, decide_eq_true (h.mp q)]
  · rw [decide_eq_false q, decide_eq_false fun z => q (h.mpr z)]
theorem dEqS_ok {K : PySem.W.Frag} {Hf H : Hp} {x y : V} {dx dy : Dat} {b : Bool} (rx : RepP K Hf H dx x) (ry : RepP K Hf H dy y) (h : dEqS dx dy = some b) : scal x y = true ∧ decide (x = y) = b := by
  unfold dEqS at h
  split at h <;> cases h <;>
    first
    | (cases rx.non; cases ry.non; exact ⟨rfl, rfl⟩)
    | (cases rx.non; cases ry.int; exact ⟨rfl, rfl⟩)
    | (cases rx.int; cases ry.non; exact ⟨rfl, rfl⟩)
    | (cases rx.non; cases ry.bl; exact ⟨rfl, rfl⟩)
    | (cases rx.bl; cases ry.non; exact ⟨rfl, rfl⟩)
    | (cases rx.non; cases ry.str; exact ⟨rfl, rfl⟩)
    | (cases rx.str; cases ry.non; exact ⟨rfl, rfl⟩)
    | (cases rx.int; cases ry.int; exact ⟨rfl, (decV ⟨fun z => by rw [z], fun z => by cases z; rfl⟩).symm⟩)
    | (cases rx.bl; cases ry.bl; exact ⟨rfl, (decV ⟨fun z => by rw [z], fun z => by cases z; rfl⟩).symm⟩)
    | (cases rx.str; cases ry.str; exact ⟨rfl, (decV ⟨fun z => by rw [z], fun z => by cases z; rfl⟩).symm⟩)
    | (cases rx.int; cases ry.str; exact ⟨rfl, rfl⟩)
    | (cases rx.str; cases ry.int; exact ⟨rfl, rfl⟩)
    | (cases rx.bl; cases ry.str; exact ⟨rfl, rfl⟩)
    | (cases rx.str; cases ry.bl; exact ⟨rfl, rfl⟩)
noncomputable def rEq2 (K : PySem.W.Frag) : R2 := fun x y H Q => rEq x y H Q ∨ rEqD K x y H Q
theorem op_eq2 {X : Cx} (hu : X.A.units + 64 < cLine) : OpR X (compareOp .Eq) (rEq2 X.K) := op_eq.or (op_eqD hu)
theorem dEq_ok {K : PySem.W.Frag} : OpB K (rEq2 K) dEq := by
  intro Hf H x y dx dy b e rx ry h Q q
  unfold dEq at h
  split at h
  · rename_i b' hb; cases h
    obtain ⟨h1, h2⟩ := dEqS_ok rx ry hb
    exact .inl ⟨h1, by rw [h2]; exact q⟩
  · unfold dEqD at h
    split at h
    · rename_i p1 p2 e1 e2
      split at h
      · rename_i z; cases h
        exact .inr ⟨p1, p2, toPyP_ok e rx e1, toPyP_ok e ry e2, z.1, z.2, q⟩
      · cases h
    · cases h
noncomputable def dNe (x y : Dat) : Option Bool := (dEq x y).map (!·)
noncomputable def rNe2 (K : PySem.W.Frag) : R2 := fun x y H Q => rNe x y H Q ∨ rNeD K x y H Q
theorem op_ne2 {X : Cx} (hu : X.A.units + 64 < cLine) : OpR X (compareOp .NotEq) (rNe2 X.K) := op_ne.or (op_neD hu)
theorem dNe_ok {K : PySem.W.Frag} : OpB K (rNe2 K) dNe := by
  intro Hf H x y dx dy b e rx ry h Q q
  unfold dNe at h
  cases h0 : dEq dx dy with
  | none => rw [h0] at h; cases h
  | some b0 =>
  rw [h0] at h; cases h
  unfold dEq at h0
  split at h0
  · rename_i b' hb; cases h0
    obtain ⟨h1, h2⟩ := dEqS_ok rx ry hb
    exact .inl ⟨h1, by rw [h2]; exact q⟩
  · unfold dEqD at h0
    split at h0
    · rename_i p1 p2 e1 e2
      split at h0
      · rename_i z; cases h0
        exact .inr ⟨p1, p2, toPyP_ok e rx e1, toPyP_ok e ry e2, z.1, z.2, q⟩
      · cases h0
    · cases h0
/-- is None -/
noncomputable def dIsN : Dat → Dat → Option Bool
  | .non, .non => some true
  | _, .non => some false
  | _, _ => none
theorem dIsN_ok {K : PySem.W.Frag} : OpB K (fun x y H Q => y = .non ∧ Q (.bl (decide (x = .non))) H) dIsN := by
  intro Hf H x y dx dy b e rx ry h Q q
  have hx : ∀ d, dx = d → d ≠ .non → decide (x = V.non) = false := fun d hd hn => by
    subst hd
    refine decide_eq_false fun z => ?_
    subst z
    rcases rx with r | ⟨a, F, r, _⟩
    · cases r; exact hn rfl
    · cases r
  unfold dIsN at h
  split at h
  · cases h; cases rx.non; cases ry.non; exact ⟨rfl, q⟩
  · rename_i hn; cases h; cases ry.non
    exact ⟨rfl, by rw [hx dx rfl hn]; exact q⟩
  · cases h
noncomputable def dNotN (x y : Dat) : Option Bool := (dIsN x y).map (!·)
theorem dNotN_ok {K : PySem.W.Frag} : OpB K (fun x y H Q => y = .non ∧ Q (.bl (!decide (x = .non))) H) dNotN := by
  intro Hf H x y dx dy b e rx ry h Q q
  unfold dNotN at h
  cases h0 : dIsN dx dy with
  | none => rw [h0] at h; cases h
  | some b0 =>
    rw [h0] at h; cases h
    obtain ⟨h1, h2⟩ := dIsN_ok Hf H x y dx dy b0 e rx ry h0 (fun v _ => v = .bl b0) rfl
    cases h2
    exact ⟨h1, q⟩

/-! ### in -/
noncomputable def flatDs : List Dat → Option (List V)
  | [] => some []
  | d :: l => (flatD d).bind fun v => (flatDs l).map fun vs => v :: vs
theorem flatD_ok {K : PySem.W.Frag} {Hf H : Hp} {d : Dat} {v w : V} (r : RepP K Hf H d v) (h : flatD d = some w) : v = w ∧ flatV w = true := by
  cases d <;> first | (cases h; done) | skip
  · cases r.non; cases h; exact ⟨rfl, rfl⟩
  · cases r.bl; cases h; exact ⟨rfl, rfl⟩
  · cases r.int; cases h; exact ⟨rfl, rfl⟩
  · cases r.str; cases h; exact ⟨rfl, rfl⟩
theorem flatDs_ok {K : PySem.W.Frag} {H : Hp} : ∀ {l : List Dat} {vs ws : List V}, Reps K H l vs → flatDs l = some ws → vs = ws ∧ ws.all flatV = true
  | _, _, _, .nil, h => by cases h; exact ⟨rfl, rfl⟩
  | d :: l, _, ws, .cons h1 r, h => by
    unfold flatDs at h
    cases e1 : flatD d with
    | none => rw [e1] at h; cases h
    | some w =>
      cases e2 : flatDs l with
      | none => rw [e1, e2] at h; cases h
      | some vs =>
        rw [e1, e2] at h; cases h
        obtain ⟨h3, h4⟩ := flatD_ok (Hf := H) (H := H) (.inl h1) e1
        obtain ⟨h5, h6⟩ := flatDs_ok r e2
        subst h3; subst h5
        exact ⟨rfl, by rw [List.all_cons, h4, h6]; rfl⟩
/-! dicts by their keys -/
noncomputable def dKey : Dat → Option Key
  | .str s => some (.inr s)
  | .int i => some (.inl i)
  | _ => none
noncomputable def valD (l : List (Key × Dat)) (k : Key) : Option Dat := (l.find? fun kv => decide (kv.1 = k)).map (·.2)
theorem dKey_ok {K : PySem.W.Frag} {Hf H : Hp} {d : Dat} {v : V} {k : Key} (r : RepP K Hf H d v) (h : dKey d = some k) : v = kV k := by
  cases d <;> first | (cases h; done) | skip
  · cases r.int; cases h; rfl
  · cases r.str; cases h; rfl
theorem RepK.val {K : PySem.W.Frag} {H : Hp} (k : Key) : ∀ {l : List (Key × Dat)} {xs : List (Key × V)}, RepK K H l xs → (∀ d, valD l k = some d → ∃ x, valV xs k = some x ∧ Rep K H d x) ∧ (valD l k = none → valV xs k = none)
  | _, _, .nil => ⟨fun _ z => (nomatch z), fun _ => rfl⟩
  | (k0, d0) :: l, _, .cons h r => by
    by_cases e : k0 = k
    · refine ⟨fun d z => ?_, fun z => ?_⟩
      · simp [valD, List.find?_cons, e] at z
        subst z
        exact ⟨_, valV_pos e, h⟩
      · simp [valD, List.find?_cons, e] at z
    · have e1 : valD ((k0, d0) :: l) k = valD l k := by simp [valD, List.find?_cons, e]
      rw [e1, valV_neg (by exact e)]
      exact RepK.val k r
noncomputable def rInDic (neg : Bool) : R2 := fun x y H Q => ∃ a o, y = .ref a ∧ DGet H a x o ∧ Q (.bl (if neg then !o.isSome else o.isSome)) H
theorem op_in_dic {X : Cx} (hu : X.A.units + 64 < cLine) : OpR X (compareOp .In) (rInDic false) := by
  intro pins s σ H x y v u Q I rx ry ⟨a, o, ey, g, q⟩
  subst ey
  obtain rfl : u = Value.ref a := ry
  exact d_in (by omega) I g rx fun s' I' => ⟨.bl o.isSome, H, I', rfl, q⟩
theorem op_notIn_dic {X : Cx} (hu : X.A.units + 64 < cLine) : OpR X (compareOp .NotIn) (rInDic true) := by
  intro pins s σ H x y v u Q I rx ry ⟨a, o, ey, g, q⟩
  subst ey
  obtain rfl : u = Value.ref a := ry
  exact d_notIn (by omega) I g rx fun s' I' => ⟨.bl (!o.isSome), H, I', rfl, q⟩
noncomputable def dIn : Dat → Dat → Option Bool
  | .str a, .str z => match a.cps.toList with
    | [c] => some (decide (c ∈ z.cps.toList))
    | _ => none
  | x, .dic l => (dKey x).map fun k => (valD l k).isSome
  | x, .lst l => (flatD x).bind fun v => (flatDs l).map fun vs => inV v vs
  | x, .tup l => (flatD x).bind fun v => (flatDs l).map fun vs => inV v vs
  | _, _ => none
theorem one_str {a : Str} {c : Nat} (h : a.cps.toList = [c]) : a = ⟨#[c]⟩ := by
  obtain ⟨cs⟩ := a
  have : cs = #[c] := by
    apply Array.toList_inj.mp
    simpa using h
  rw [this]
theorem dIn_seq {K : PySem.W.Frag} {Hf H : Hp} {x y : V} {dx : Dat} {l : List Dat} {b : Bool} (rx : RepP K Hf H dx x) (ry : (∃ a xs, y = .ref a ∧ (SqL K H a xs ∨ SqT K H a xs) ∧ Reps K Hf l xs))
    (h : ((flatD dx).bind fun v => (flatDs l).map fun vs => inV v vs) = some b) (neg : Bool) (Q : VK) (q : Q (.bl (if neg then !b else b)) H) : rIn K neg x y H Q := by
  cases e1 : flatD dx with
  | none => rw [e1] at h; cases h
  | some w =>
    cases e2 : flatDs l with
    | none => rw [e1, e2] at h; cases h
    | some vs =>
      rw [e1, e2] at h; cases h
      obtain ⟨h3, h4⟩ := flatD_ok rx e1
      obtain ⟨a, xs, rfl, hs, hr⟩ := ry
      obtain ⟨h5, h6⟩ := flatDs_ok hr e2
      subst h3; subst h5
      exact ⟨a, _, rfl, hs, h4, h6, q⟩
theorem dIn_dic {K : PySem.W.Frag} {Hf H : Hp} {x y : V} {dx : Dat} {l : List (Key × Dat)} {b : Bool} (e : Same Hf H) (rx : RepP K Hf H dx x) (ry : RepP K Hf H (.dic l) y) (h : ((dKey dx).map fun k => (valD l k).isSome) = some b) (neg : Bool) (Q : VK)
    (q : Q (.bl (if neg then !b else b)) H) : rInDic neg x y H Q := by
  obtain ⟨a, xs, rfl, h1, h2⟩ := ry.dic e
  cases hk : dKey dx with
  | none => rw [hk] at h; cases h
  | some k =>
    rw [hk] at h
    cases dKey_ok rx hk
    refine ⟨a, _, rfl, .inl ⟨_, _, h1, rfl, rfl⟩, ?_⟩
    have hb : (valV xs k).isSome = b := by
      obtain ⟨g1, g2⟩ := h2.val k
      cases hv : valD l k with
      | none => rw [g2 hv]; rw [Option.map_some, hv] at h; cases h; rfl
      | some d =>
        obtain ⟨x, hx, _⟩ := g1 d hv
        rw [hx]; rw [Option.map_some, hv] at h; cases h; rfl
    rw [hb]; exact q
noncomputable def rIn2 (K : PySem.W.Frag) : R2 := fun x y H Q => ((∃ (c : Nat) (z : Str), x = .str ⟨#[c]⟩ ∧ y = .str z ∧ Q (.bl (decide (c ∈ z.cps.toList))) H) ∨ rIn K false x y H Q) ∨ rInDic false x y H Q
theorem op_in2 {X : Cx} (hu : X.A.units + 64 < cLine) : OpR X (compareOp .In) (rIn2 X.K) := (op_in_sign.or op_in_seq).or (op_in_dic hu)
theorem dIn_ok {K : PySem.W.Frag} : OpB K (rIn2 K) dIn := by
  intro Hf H x y dx dy b e rx ry h Q q
  unfold dIn at h
  split at h
  · split at h
    · rename_i z c hc; cases h; cases rx.str; cases ry.str
      rw [one_str hc]
      exact .inl (.inl ⟨c, _, rfl, rfl, q⟩)
    · cases h
  · exact .inr (dIn_dic e rx ry h false Q q)
  · obtain ⟨a, xs, rfl, h1, h2⟩ := ry.lst e
    exact .inl (.inr (dIn_seq rx ⟨a, xs, rfl, .inl (SqL.of h1), h2⟩ h false Q q))
  · obtain ⟨a, xs, rfl, h1, h2⟩ := ry.tup e
    exact .inl (.inr (dIn_seq rx ⟨a, xs, rfl, .inr h1.sq, h2⟩ h false Q q))
  · cases h
noncomputable def dNotIn (x y : Dat) : Option Bool := (dIn x y).map (!·)
noncomputable def rNotin2 (K : PySem.W.Frag) : R2 := fun x y H Q => ((∃ (c : Nat) (z : Str), x = .str ⟨#[c]⟩ ∧ y = .str z ∧ Q (.bl (!decide (c ∈ z.cps.toList))) H) ∨ rIn K true x y H Q) ∨ rInDic true x y H Q
theorem op_notin2 {X : Cx} (hu : X.A.units + 64 < cLine) : OpR X (compareOp .NotIn) (rNotin2 X.K) := (op_notIn_sign.or op_notIn_seq).or (op_notIn_dic hu)
theorem dNotIn_ok {K : PySem.W.Frag} : OpB K (rNotin2 K) dNotIn := by
  intro Hf H x y dx dy b e rx ry h Q q
  unfold dNotIn at h
  cases h0 : dIn dx dy with
  | none => rw [h0] at h; cases h
  | some b0 =>
  rw [h0] at h; cases h
  unfold dIn at h0
  split at h0
  · split at h0
    · rename_i z c hc; cases h0; cases rx.str; cases ry.str
      rw [one_str hc]
      exact .inl (.inl ⟨c, _, rfl, rfl, q⟩)
    · cases h0
  · exact .inr (dIn_dic e rx ry h0 true Q q)
  · obtain ⟨a, xs, rfl, h1, h2⟩ := ry.lst e
    exact .inl (.inr (dIn_seq rx ⟨a, xs, rfl, .inl (SqL.of h1), h2⟩ h0 true Q q))
  · obtain ⟨a, xs, rfl, h1, h2⟩ := ry.tup e
    exact .inl (.inr (dIn_seq rx ⟨a, xs, rfl, .inr h1.sq, h2⟩ h0 true Q q))
  · cases h0

/-! ### places and slices -/
noncomputable def rDIx : R2 := fun x y H Q => ∃ a v, x = .ref a ∧ DGet H a y (some v) ∧ Q v H
theorem ix_dict {X : Cx} (hu : X.A.units + 64 < cLine) : IxR X rDIx := by
  intro value slice pins s σ H x y v u Q I rx ry ⟨a, z, ex, g, q⟩ hs
  subst ex
  obtain rfl : v = Value.ref a := rx
  have hT := dict_typeIs I g
  unfold PyProof.Rows.subscriptTail
  refine wpAny_bind ?_
  rw [getitemInPython_of_ne hT.not_modules]
  refine wpAny_bind (wpAny_specialOf hT PySem.F.slot_dict_getitem.lookup ?_)
  have fin : wpAny (model X.prog X.w) X.A (subscripted slice false (.ref a) u) (fun r s3 => wpAny (model X.prog X.w) X.A (letTemporaryGo value (.ref a) r >>= fun _ => pure r) (EP X pins σ Q) X.xe s3) X.xe s := by
    rw [hs]
    exact wpAny_operating (d_getItem (by omega) I g ry fun w' s' I' r' => wpAny_bind (wpAny_letTemporaryGo (wpAny_pure ⟨z, H, I', r', q⟩)))
  first
    | exact wpAny_pure (wpAny_bind fin)
    | exact wpAny_bind (wpAny_pure (wpAny_bind fin))
    | exact wpAny_bind fin
noncomputable def rIx2 (K : PySem.W.Frag) : R2 := fun x y H Q => rIx K x y H Q ∨ rDIx x y H Q
theorem ix2 {X : Cx} (hu : X.A.units + 64 < cLine) : IxR X (rIx2 X.K) := ix_seq.or (ix_dict hu)
noncomputable def dIx : Dat → Dat → Option Dat
  | .lst l, .int i => atI l i
  | .scr l, .int i => atI l i
  | .tup l, .int i => atI l i
  | .str s, .int i => if fits s.length then (atI s.cps.toList i).map fun c => .str ⟨#[c]⟩ else none
  | .dic l, y => (dKey y).bind (valD l)
  | _, _ => none
theorem atI_reps {K : PySem.W.Frag} {H : Hp} {l : List Dat} {xs : List V} {i : Int} {d : Dat} (r : Reps K H l xs) (h : atI l i = some d) : ∃ x, atI xs i = some x ∧ Rep K H d x := by
  unfold atI at h ⊢
  rw [r.length] at h
  cases e : ixN xs.length i with
  | none => rw [e] at h; cases h
  | some j => rw [e] at h; exact r.get h
theorem dIx_ok {K : PySem.W.Frag} : Op2 K (rIx2 K) dIx := by
  intro Hf H x y dx dy d e rx ry h Q q
  unfold dIx at h
  split at h
  · cases ry.int
    obtain ⟨a, xs, rfl, h1, h2⟩ := rx.lst e
    obtain ⟨v, h3, h4⟩ := atI_reps h2 h
    exact .inl <| .inl ⟨a, xs, _, v, rfl, rfl, SqL.of h1, h3, q _ Hf H (.refl e) h4⟩
  · cases ry.int
    obtain ⟨a, xs, rfl, h1, h2⟩ := rx.scr e
    obtain ⟨v, h3, h4⟩ := atI_reps h2 h
    exact .inl <| .inl ⟨a, xs, _, v, rfl, rfl, h1, h3, q _ Hf H (.refl e) h4⟩
  · cases ry.int
    obtain ⟨a, xs, rfl, h1, h2⟩ := rx.tup e
    obtain ⟨v, h3, h4⟩ := atI_reps h2 h
    exact .inl <| .inr (.inl ⟨a, xs, _, v, rfl, rfl, h1.sq, h3, q _ Hf H (.refl e) h4⟩)
  · split at h
    · rename_i z
      cases rx.str; cases ry.int
      rename_i s i
      cases e1 : atI s.cps.toList i with
      | none => rw [e1] at h; cases h
      | some c => rw [e1] at h; cases h; exact .inl <| .inr (.inr ⟨s, i, c, rfl, rfl, fits_le z, e1, q _ Hf H (.refl e) .str⟩)
    · cases h
  · rename_i l
    obtain ⟨a, xs, rfl, h1, h2⟩ := rx.dic e
    cases hk : dKey dy with
    | none => rw [hk] at h; cases h
    | some k =>
      rw [hk] at h
      cases dKey_ok ry hk
      obtain ⟨g, hg, hr⟩ := (h2.val k).1 d h
      exact .inr ⟨a, g, rfl, by rw [← hg]; exact .inl ⟨_, _, h1, rfl, rfl⟩, q _ Hf H (.refl e) hr⟩
  · cases h
end D

namespace D
open PySem L2

section
variable {X : Cx} {W : WX} {np : Nat} {a b c e o : Expr} {es : List Expr} {pos apos : Pos} {ma mb mc : M Dat} {mt mu : M Bool}

/-! ### x[i], x a name: only looked at -/
theorem de_ix (hu : X.A.units + 64 < cLine) (ha : DE X W np a ma) (hb : DE X W np b mb) (hs : PlainIx b) : DE X W np (.Subscript a b pos) (bnd ma fun x => bnd mb fun y => lft (dIx x y)) := by
  refine PE.wk (pe_ix (ix2 hu) ha hb hs) fun σ H Q ⟨Hf, η, R, p⟩ => ?_
  refine ⟨Hf, η, R, p.bnd fun x Hf1 H1 η1 σ1 R1 S1 p1 e1 v rv => ?_⟩
  subst e1
  refine ⟨Hf1, η1, R1, p1.bnd fun y Hf2 H2 η2 σ2 R2 S2 p2 e2 u ru => ?_⟩
  subst e2
  obtain ⟨d, hd, q⟩ := p2.lft R2
  exact dIx_ok Hf2 H2 v u x y d R2.ex (.inl (rv.mono S2.ef)) (.inl ru) hd Q fun w Hf' H' e r => q Hf' H' e rfl w r
theorem Rl.peek {K : PySem.W.Frag} {Hf H : Hp} {η : En} {σ : St} {i : Nat} {d : Dat} {η' : En} (R : Rl K Hf H η σ) (h : mPeek i η = .ok d η') : η' = η ∧ ∃ v, σ[i]? = some (some v) ∧ RepP K Hf H d v := by
  unfold mPeek at h
  split at h
  · rename_i d' hd; cases h
    obtain ⟨v, h1, h2⟩ := R.fr i _ hd
    exact ⟨rfl, v, h1, .inl h2⟩
  · rename_i d' hd; cases h
    obtain ⟨a, F, h1, h2, h3⟩ := R.ow i _ hd
    exact ⟨rfl, _, h1, .inr ⟨a, F, rfl, h2⟩⟩
  · cases h
theorem mPeek_cases (i : Nat) (η : En) : (∃ d, mPeek i η = .ok d η) ∨ mPeek i η = .bad := by
  unfold mPeek
  split
  · exact .inl ⟨_, rfl⟩
  · exact .inl ⟨_, rfl⟩
  · exact .inr rfl
theorem Pst.peek {α : Type} {K : PySem.W.Frag} {Hf H : Hp} {η : En} {σ : St} {i : Nat} {f : Dat → M α} {R : α → Hp → Hp → En → St → Prop} (r : Rl K Hf H η σ) (p : Pst K np W Hf H η σ R (D.bnd (mPeek i) f η)) :
    ∃ d v, σ[i]? = some (some v) ∧ RepP K Hf H d v ∧ Pst K np W Hf H η σ R (f d η) := by
  rcases mPeek_cases i η with ⟨d, h⟩ | h
  · obtain ⟨_, v, h1, h2⟩ := r.peek h
    unfold D.bnd at p
    rw [h] at p
    exact ⟨d, v, h1, h2, p⟩
  · unfold D.bnd at p
    rw [h] at p
    exact False.elim p
theorem de_ixv (hu : X.A.units + 64 < cLine) (i : Nat) {x : Str} {px : Pos} (h : PE X (.Name x px) (tVar i)) (hb : DE X W np b mb) (hs : PlainIx b) : DE X W np (.Subscript (.Name x px) b pos) (bnd (mPeek i) fun _ => bnd mb fun y => bnd (mPeek i) fun x => lft (dIx x y)) := by
  refine PE.wk (pe_ix (ix2 hu) h hb hs) fun σ H Q ⟨Hf, η, R, p⟩ => ?_
  obtain ⟨_, v, hv, _, p0⟩ := p.peek R
  refine ⟨v, hv, Hf, η, R, p0.bnd fun y Hf2 H2 η2 σ2 R2 S2 p2 e2 u ru => ?_⟩
  subst e2
  obtain ⟨dx, v', h1, h2, p3⟩ := p2.peek R2
  rw [hv] at h1; cases h1
  obtain ⟨d, hd, q⟩ := p3.lft R2
  exact dIx_ok Hf2 H2 v u dx y d R2.ex h2 (.inl ru) hd Q fun w Hf' H' e r => q Hf' H' e rfl w r

/-! ### built-ins by values -/
theorem de_b1 {id : String} {r : List V → Hp → VK → Prop} {g : List Dat → Option Dat} {x : Str} {p : Pos} (hc : CallR X (.builtin id) r) (hs : OpC X.K r g) (hg : Gl X x) (hm : X.mg x = none) (hv : bootBuiltins x = some (.builtin id)) (ha : DP X W np a ma)
    (hn : x ≠ "__name__" := by decide) (hdb : (x == ("__debug__" : Str)) = false := by decide) (he : starEach [a] X.env = (false, eval a X.env) :: starEach [] X.env := by rfl) (hpl : (backTo pos (starEach [] X.env)).any (·.1) = false := by rfl) :
    DE X W np (.Call (.Name x p) [a] [] pos) (bnd ma fun d => lft (g [d])) := by
  refine PE.wk (pe_callB hc hg hm hv (pa_cons ha pa_nil he) hn hdb he hpl) fun σ H Q ⟨Hf, η, R, p⟩ => ⟨Hf, η, R, p.bnd fun d Hf1 H1 η1 σ1 R1 S1 p1 e1 v rv => ?_⟩
  subst e1
  obtain ⟨z, hz, q⟩ := p1.lft R1
  exact hs Hf1 H1 [v] [d] z R1.ex (.one rv) hz Q fun w Hf' H' e r => q Hf' H' e rfl w r
theorem de_b2 {id : String} {r : List V → Hp → VK → Prop} {g : List Dat → Option Dat} {x : Str} {p : Pos} (hc : CallR X (.builtin id) r) (hs : OpC X.K r g) (hg : Gl X x) (hm : X.mg x = none) (hv : bootBuiltins x = some (.builtin id)) (ha : DE X W np a ma) (hb : DP X W np b mb)
    (hn : x ≠ "__name__" := by decide) (hdb : (x == ("__debug__" : Str)) = false := by decide) (he : starEach [a, b] X.env = (false, eval a X.env) :: starEach [b] X.env := by rfl) (he2 : starEach [b] X.env = (false, eval b X.env) :: starEach [] X.env := by rfl) (hpl : (backTo pos (starEach [b] X.env)).any (·.1) = false := by rfl) :
    DE X W np (.Call (.Name x p) [a, b] [] pos) (bnd ma fun d => bnd mb fun e => lft (g [d, e])) := by
  refine PE.wk (pe_callB hc hg hm hv (pa_cons ha (pa_cons hb pa_nil he2) he) hn hdb he hpl) fun σ H Q ⟨Hf, η, R, p⟩ => ⟨Hf, η, R, p.bnd fun d Hf1 H1 η1 σ1 R1 S1 p1 e1 v rv => ?_⟩
  subst e1
  refine ⟨Hf1, η1, R1, p1.bnd fun y Hf2 H2 η2 σ2 R2 S2 p2 e2 u ru => ?_⟩
  subst e2
  obtain ⟨z, hz, q⟩ := p2.lft R2
  exact hs Hf2 H2 [v, u] [d, y] z R2.ex (.cons (rv.mono S2.ef) (.one ru)) hz Q fun w Hf' H' e r => q Hf' H' e rfl w r
theorem de_t1 {T : String} {r : List V → Hp → VK → Prop} {g : List Dat → Option Dat} {x : Str} {p : Pos} (hc : CallR X (.type T) r) (hs : OpC X.K r g) (hg : Gl X x) (hm : X.mg x = none) (hv : bootBuiltins x = some (.type T)) (ha : DP X W np a ma)
    (hn : x ≠ "__name__" := by decide) (hdb : (x == ("__debug__" : Str)) = false := by decide) (he : starEach [a] X.env = (false, eval a X.env) :: starEach [] X.env := by rfl) (hpl : (backTo pos (starEach [] X.env)).any (·.1) = false := by rfl) :
    DE X W np (.Call (.Name x p) [a] [] pos) (bnd ma fun d => lft (g [d])) := by
  refine PE.wk (pe_callTy hc hg hm hv (pa_cons ha pa_nil he) hn hdb he hpl) fun σ H Q ⟨Hf, η, R, p⟩ => ⟨Hf, η, R, p.bnd fun d Hf1 H1 η1 σ1 R1 S1 p1 e1 v rv => ?_⟩
  subst e1
  obtain ⟨z, hz, q⟩ := p1.lft R1
  exact hs Hf1 H1 [v] [d] z R1.ex (.one rv) hz Q fun w Hf' H' e r => q Hf' H' e rfl w r
/-- a new object of a pure step is owned -/
theorem ownNew {K : PySem.W.Frag} {Hf H H' : Hp} {η : En} {σ : St} {pa : Addr} {d : Dat} (R : Rl K Hf H η σ) (n : H pa = none) (sm : Same H H') (_o : OwnF K Hf H' pa d) : Ext Hf H Hf H' ∧ Hf pa = none ∧ ¬ Own K Hf H' η σ pa := by
  have ex : Ext Hf H Hf H' := ⟨.refl _, sm, R.ex.trans sm, fun _ _ h => .inl h⟩
  refine ⟨ex, R.ex.free n, fun z => ?_⟩
  obtain ⟨u, hu⟩ := (Own.ofExt R ex z).there
  rw [n] at hu; cases hu
theorem do_t1 {T : String} {r : List V → Hp → VK → Prop} {g : List Dat → Option Dat} {x : Str} {p : Pos} (hc : CallR X (.type T) r) (hs : OpO X.K r g) (hg : Gl X x) (hm : X.mg x = none) (hv : bootBuiltins x = some (.type T)) (ha : DP X W np a ma)
    (hn : x ≠ "__name__" := by decide) (hdb : (x == ("__debug__" : Str)) = false := by decide) (he : starEach [a] X.env = (false, eval a X.env) :: starEach [] X.env := by rfl) (hpl : (backTo pos (starEach [] X.env)).any (·.1) = false := by rfl) :
    DO X W np (.Call (.Name x p) [a] [] pos) (bnd ma fun d => lft (g [d])) := by
  refine PE.wk (pe_callTy hc hg hm hv (pa_cons ha pa_nil he) hn hdb he hpl) fun σ H Q ⟨Hf, η, R, p⟩ => ⟨Hf, η, R, p.bnd fun d Hf1 H1 η1 σ1 R1 S1 p1 e1 v rv => ?_⟩
  subst e1
  obtain ⟨z, hz, q⟩ := p1.lft R1
  refine hs Hf1 H1 [v] [d] z R1.ex (.one rv) hz Q fun pa H' n sm o => ?_
  obtain ⟨h1, h2, h3⟩ := ownNew R1 n sm o
  exact q Hf1 H' h1 rfl pa (.inl (S1.nn pa n)) h2 o h3
theorem do_b1 {id : String} {r : List V → Hp → VK → Prop} {g : List Dat → Option Dat} {x : Str} {p : Pos} (hc : CallR X (.builtin id) r) (hs : OpO X.K r g) (hg : Gl X x) (hm : X.mg x = none) (hv : bootBuiltins x = some (.builtin id)) (ha : DP X W np a ma)
    (hn : x ≠ "__name__" := by decide) (hdb : (x == ("__debug__" : Str)) = false := by decide) (he : starEach [a] X.env = (false, eval a X.env) :: starEach [] X.env := by rfl) (hpl : (backTo pos (starEach [] X.env)).any (·.1) = false := by rfl) :
    DO X W np (.Call (.Name x p) [a] [] pos) (bnd ma fun d => lft (g [d])) := by
  refine PE.wk (pe_callB hc hg hm hv (pa_cons ha pa_nil he) hn hdb he hpl) fun σ H Q ⟨Hf, η, R, p⟩ => ⟨Hf, η, R, p.bnd fun d Hf1 H1 η1 σ1 R1 S1 p1 e1 v rv => ?_⟩
  subst e1
  obtain ⟨z, hz, q⟩ := p1.lft R1
  refine hs Hf1 H1 [v] [d] z R1.ex (.one rv) hz Q fun pa H' n sm o => ?_
  obtain ⟨h1, h2, h3⟩ := ownNew R1 n sm o
  exact q Hf1 H' h1 rfl pa (.inl (S1.nn pa n)) h2 o h3
/-- s.m(e), s a text -/
noncomputable def dStr : Dat → Option Str
  | .str s => some s
  | _ => none
theorem dStr_ok {K : PySem.W.Frag} {Hf : Hp} {d : Dat} {v : V} {s : Str} (r : Rep K Hf d v) (h : dStr d = some s) : v = .str s := by
  cases d <;> first | (cases h; done) | skip
  cases h; cases r; rfl
noncomputable def OpM (K : PySem.W.Frag) (r : V → List V → Hp → VK → Prop) (g : Str → Dat → Option Dat) : Prop := ∀ (Hf H : Hp) (s : Str) (y : V) (dy d : Dat), Same Hf H → RepP K Hf H dy y → g s dy = some d →
  ∀ Q : VK, (∀ v Hf' H', Ext Hf H Hf' H' → Rep K Hf' d v → Q v H') → r (.str s) [y] H Q
noncomputable def OpMO (K : PySem.W.Frag) (r : V → List V → Hp → VK → Prop) (g : Str → Dat → Option Dat) : Prop := ∀ (Hf H : Hp) (s : Str) (y : V) (dy d : Dat), Same Hf H → RepP K Hf H dy y → g s dy = some d →
  ∀ Q : VK, (∀ p H', H p = none → Same H H' → OwnF K Hf H' p d → Q (.ref p) H') → r (.str s) [y] H Q
theorem de_m1 {id : String} {name : Str} {r : V → List V → Hp → VK → Prop} {g : Str → Dat → Option Dat} (slot : Slot "str" name id) (ty : typeOf (.builtin id) = pure (.type "method_descriptor")) (rule : MtR X id r)
    (hs : OpM X.K r g) (ha : DE X W np a ma) (hb : DP X W np b mb)
    (hst : starEach [b] X.env = [(false, eval b X.env)] := by rfl) (hbase : attributeBase a name X.env (eval a X.env) = eval a X.env := by rfl) (hline : (apos.endLine == pos.line) = true := by rfl) :
    DE X W np (.Call (.Attribute a name apos) [b] [] pos) (bnd ma fun x => bnd (lft (dStr x)) fun s => bnd mb fun y => lft (g s y)) := by
  refine PE.wk (pe_m1 slot ty rule ha hb hst hbase hline) fun σ H Q ⟨Hf, η, R, p⟩ => ⟨Hf, η, R, p.bnd fun d Hf1 H1 η1 σ1 R1 S1 p1 e1 v rv => ?_⟩
  subst e1
  obtain ⟨s, hs', p1⟩ := p1.bndL
  cases dStr_ok rv hs'
  refine ⟨⟨s, rfl⟩, Hf1, η1, R1, p1.bnd fun y Hf2 H2 η2 σ2 R2 S2 p2 e2 u ru => ?_⟩
  subst e2
  obtain ⟨z, hz, q⟩ := p2.lft R2
  exact hs Hf2 H2 s u y z R2.ex ru hz Q fun w Hf' H' e r => q Hf' H' e rfl w r
theorem do_m1 {id : String} {name : Str} {r : V → List V → Hp → VK → Prop} {g : Str → Dat → Option Dat} (slot : Slot "str" name id) (ty : typeOf (.builtin id) = pure (.type "method_descriptor")) (rule : MtR X id r)
    (hs : OpMO X.K r g) (ha : DE X W np a ma) (hb : DP X W np b mb)
    (hst : starEach [b] X.env = [(false, eval b X.env)] := by rfl) (hbase : attributeBase a name X.env (eval a X.env) = eval a X.env := by rfl) (hline : (apos.endLine == pos.line) = true := by rfl) :
    DO X W np (.Call (.Attribute a name apos) [b] [] pos) (bnd ma fun x => bnd (lft (dStr x)) fun s => bnd mb fun y => lft (g s y)) := by
  refine PE.wk (pe_m1 slot ty rule ha hb hst hbase hline) fun σ H Q ⟨Hf, η, R, p⟩ => ⟨Hf, η, R, p.bnd fun d Hf1 H1 η1 σ1 R1 S1 p1 e1 v rv => ?_⟩
  subst e1
  obtain ⟨s, hs', p1⟩ := p1.bndL
  cases dStr_ok rv hs'
  refine ⟨⟨s, rfl⟩, Hf1, η1, R1, p1.bnd fun y Hf2 H2 η2 σ2 R2 S2 p2 e2 u ru => ?_⟩
  subst e2
  obtain ⟨z, hz, q⟩ := p2.lft R2
  refine hs Hf2 H2 s u y z R2.ex ru hz Q fun pa H' n sm o => ?_
  obtain ⟨h1, h2, h3⟩ := ownNew R2 n sm o
  exact q Hf2 H' h1 rfl pa (.inl (S1.nn pa (S2.nn pa n))) h2 o h3

/-! ### values: len, list, all, any, join, split, isinstance -/
noncomputable def dLen : List Dat → Option Dat
  | [.str s] => if fits s.length then some (.int s.length) else none
  | [.lst l] => some (.int l.length)
  | [.scr l] => some (.int l.length)
  | [.tup l] => some (.int l.length)
  | _ => none
theorem RepsP.one' {K : PySem.W.Frag} {Hf H : Hp} {d : Dat} {xs : List V} (r : RepsP K Hf H [d] xs) : ∃ v, xs = [v] ∧ RepP K Hf H d v := by
  cases r with
  | one h => exact ⟨_, rfl, h⟩
  | cons h r => cases r; exact ⟨_, rfl, .inl h⟩
theorem RepsP.two' {K : PySem.W.Frag} {Hf H : Hp} {d d2 : Dat} {xs : List V} (r : RepsP K Hf H [d, d2] xs) : ∃ v u, xs = [v, u] ∧ Rep K Hf d v ∧ RepP K Hf H d2 u := by
  cases r with
  | cons h r =>
    obtain ⟨u, rfl, h2⟩ := r.one'
    exact ⟨_, u, rfl, h, h2⟩
theorem dLen_ok {K : PySem.W.Frag} : OpC K (fun xs H Q => ∃ x n, xs = [x] ∧ LenV K x H n ∧ Q (.int n) H) dLen := by
  intro Hf H xs ds d e r h Q q
  unfold dLen at h
  split at h
  · obtain ⟨v, rfl, r1⟩ := r.one'
    split at h
    · rename_i z; cases h; cases r1.str
      exact ⟨_, _, rfl, ⟨fits_le z, rfl⟩, q _ Hf H (.refl e) .int⟩
    · cases h
  · obtain ⟨v, rfl, r1⟩ := r.one'
    cases h
    obtain ⟨a, xs, rfl, h1, h2⟩ := r1.lst e
    exact ⟨_, _, rfl, .inl ⟨xs, SqL.of h1, h2.length⟩, q _ Hf H (.refl e) .int⟩
  · obtain ⟨v, rfl, r1⟩ := r.one'
    cases h
    obtain ⟨a, xs, rfl, h1, h2⟩ := r1.scr e
    exact ⟨_, _, rfl, .inl ⟨xs, h1, h2.length⟩, q _ Hf H (.refl e) .int⟩
  · obtain ⟨v, rfl, r1⟩ := r.one'
    cases h
    obtain ⟨a, xs, rfl, h1, h2⟩ := r1.tup e
    exact ⟨_, _, rfl, .inr ⟨xs, h1.sq, h2.length⟩, q _ Hf H (.refl e) .int⟩
  · cases h
noncomputable def dList : List Dat → Option Dat
  | [.lst l] => some (.lst l)
  | [.scr l] => some (.lst l)
  | [.tup l] => some (.lst l)
  | _ => none
theorem dList_ok {K : PySem.W.Frag} : OpO K (fun xs H Q => ∃ p ys, xs = [.ref p] ∧ (SqL K H p ys ∨ SqT K H p ys) ∧ ∀ l, H l = none → Q (.ref l) (upd H l (.lst ys))) dList := by
  intro Hf H xs ds d e r h Q q
  unfold dList at h
  split at h
  · obtain ⟨v, rfl, r1⟩ := r.one'
    cases h
    obtain ⟨a, xs, rfl, h1, h2⟩ := r1.lst e
    exact ⟨a, xs, rfl, .inl (SqL.of h1), fun l n => q l _ n (same_upd n) ⟨.lst upd_same h2, nofun⟩⟩
  · obtain ⟨v, rfl, r1⟩ := r.one'
    cases h
    obtain ⟨a, xs, rfl, h1, h2⟩ := r1.scr e
    exact ⟨a, xs, rfl, .inl h1, fun l n => q l _ n (same_upd n) ⟨.lst upd_same h2, nofun⟩⟩
  · obtain ⟨v, rfl, r1⟩ := r.one'
    cases h
    obtain ⟨a, xs, rfl, h1, h2⟩ := r1.tup e
    exact ⟨a, xs, rfl, .inr h1.sq, fun l n => q l _ n (same_upd n) ⟨.lst upd_same h2, nofun⟩⟩
  · cases h
noncomputable def bools : List Dat → Option (List Bool)
  | [] => some []
  | .bl b :: l => (bools l).map (b :: ·)
  | _ :: _ => none
theorem bools_ok {K : PySem.W.Frag} {H : Hp} : ∀ {l : List Dat} {xs : List V} {bs : List Bool}, Reps K H l xs → bools l = some bs → xs = bs.map V.bl
  | _, _, _, .nil, h => by cases h; rfl
  | .bl b :: l, _, bs, .cons h1 r, h => by
    unfold bools at h
    cases e : bools l with
    | none => rw [e] at h; cases h
    | some cs => rw [e] at h; cases h; cases h1; rw [bools_ok r e]; rfl
  | .non :: _, _, _, .cons _ _, h => by cases h
  | .int _ :: _, _, _, .cons _ _, h => by cases h
  | .str _ :: _, _, _, .cons _ _, h => by cases h
  | .ty _ :: _, _, _, .cons _ _, h => by cases h
  | .tup _ :: _, _, _, .cons _ _, h => by cases h
  | .lst _ :: _, _, _, .cons _ _, h => by cases h
  | .scr _ :: _, _, _, .cons _ _, h => by cases h
  | .dic _ :: _, _, _, .cons _ _, h => by cases h
  | .adr _ :: _, _, _, .cons _ _, h => by cases h
  | .glo _ :: _, _, _, .cons _ _, h => by cases h
  | .obj _ _ :: _, _, _, .cons _ _, h => by cases h
  | .exn _ _ _ _ :: _, _, _, .cons _ _, h => by cases h
  | .dit _ :: _, _, _, .cons _ _, h => by cases h
  | .own _ :: _, _, _, .cons _ _, h => by cases h
  | .lck _ :: _, _, _, .cons _ _, h => by cases h
noncomputable def dAll : List Dat → Option Dat
  | [.lst l] => (bools l).map fun bs => .bl (bs.all id)
  | _ => none
noncomputable def dAny : List Dat → Option Dat
  | [.lst l] => (bools l).map fun bs => .bl (bs.any id)
  | _ => none
theorem dAll_ok {K : PySem.W.Frag} : OpC K (rAll K) dAll := by
  intro Hf H xs ds d e r h Q q
  unfold dAll at h
  split at h
  · obtain ⟨v, rfl, r1⟩ := r.one'
    obtain ⟨a, xs, rfl, h1, h2⟩ := r1.lst e
    rename_i l
    cases e1 : bools l with
    | none => rw [e1] at h; cases h
    | some bs =>
      rw [e1] at h; cases h
      rw [bools_ok h2 e1] at h1
      exact ⟨a, bs, rfl, SqL.of h1, q _ Hf H (.refl e) .bl⟩
  · cases h
theorem dAny_ok {K : PySem.W.Frag} : OpC K (rAny K) dAny := by
  intro Hf H xs ds d e r h Q q
  unfold dAny at h
  split at h
  · obtain ⟨v, rfl, r1⟩ := r.one'
    obtain ⟨a, xs, rfl, h1, h2⟩ := r1.lst e
    rename_i l
    cases e1 : bools l with
    | none => rw [e1] at h; cases h
    | some bs =>
      rw [e1] at h; cases h
      rw [bools_ok h2 e1] at h1
      exact ⟨a, bs, rfl, SqL.of h1, q _ Hf H (.refl e) .bl⟩
  · cases h
noncomputable def strs' : List Dat → Option (List Str)
  | [] => some []
  | .str b :: l => (strs' l).map (b :: ·)
  | _ :: _ => none
theorem strs'_ok {K : PySem.W.Frag} {H : Hp} : ∀ {l : List Dat} {xs : List V} {bs : List Str}, Reps K H l xs → strs' l = some bs → xs = bs.map V.str
  | _, _, _, .nil, h => by cases h; rfl
  | .str b :: l, _, bs, .cons h1 r, h => by
    unfold strs' at h
    cases e : strs' l with
    | none => rw [e] at h; cases h
    | some cs => rw [e] at h; cases h; cases h1; rw [strs'_ok r e]; rfl
  | .non :: _, _, _, .cons _ _, h => by cases h
  | .int _ :: _, _, _, .cons _ _, h => by cases h
  | .bl _ :: _, _, _, .cons _ _, h => by cases h
  | .ty _ :: _, _, _, .cons _ _, h => by cases h
  | .tup _ :: _, _, _, .cons _ _, h => by cases h
  | .lst _ :: _, _, _, .cons _ _, h => by cases h
  | .scr _ :: _, _, _, .cons _ _, h => by cases h
  | .dic _ :: _, _, _, .cons _ _, h => by cases h
  | .adr _ :: _, _, _, .cons _ _, h => by cases h
  | .glo _ :: _, _, _, .cons _ _, h => by cases h
  | .obj _ _ :: _, _, _, .cons _ _, h => by cases h
  | .exn _ _ _ _ :: _, _, _, .cons _ _, h => by cases h
  | .dit _ :: _, _, _, .cons _ _, h => by cases h
  | .own _ :: _, _, _, .cons _ _, h => by cases h
  | .lck _ :: _, _, _, .cons _ _, h => by cases h
noncomputable def joinOk (s : Str) (ys : List Str) : Option Dat := if (ys.map (·.length)).sum + ys.length * s.length ≤ 1000000 then some (.str (Txt.join s ys)) else none
noncomputable def dJoin (s : Str) : Dat → Option Dat
  | .lst l => (strs' l).bind (joinOk s)
  | .tup l => (strs' l).bind (joinOk s)
  | _ => none
noncomputable def rJoin (K : PySem.W.Frag) : V → List V → Hp → VK → Prop := fun x xs H Q => ∃ a p, ∃ ys : List Str, x = .str a ∧ xs = [.ref p] ∧ (SqL K H p (ys.map V.str) ∨ SqT K H p (ys.map V.str)) ∧
    (ys.map (·.length)).sum + ys.length * a.length ≤ 16777216 ∧ Q (.str (Txt.join a ys)) H
theorem joinOk_ok {s : Str} {ys : List Str} {d : Dat} (h : joinOk s ys = some d) : (ys.map (·.length)).sum + ys.length * s.length ≤ 16777216 ∧ d = .str (Txt.join s ys) := by
  unfold joinOk at h
  split at h
  · cases h; exact ⟨by omega, rfl⟩
  · cases h
theorem dJoin_ok {K : PySem.W.Frag} : OpM K (rJoin K) dJoin := by
  intro Hf H s y dy d e ry h Q q
  unfold dJoin at h
  split at h
  · obtain ⟨a, xs, rfl, h1, h2⟩ := ry.lst e
    rename_i l
    cases e1 : strs' l with
    | none => rw [e1] at h; cases h
    | some bs =>
      rw [e1] at h
      obtain ⟨h3, rfl⟩ := joinOk_ok h
      rw [strs'_ok h2 e1] at h1
      exact ⟨s, a, bs, rfl, rfl, .inl (SqL.of h1), h3, q _ Hf H (.refl e) .str⟩
  · obtain ⟨a, xs, rfl, h1, h2⟩ := ry.tup e
    rename_i l
    cases e1 : strs' l with
    | none => rw [e1] at h; cases h
    | some bs =>
      rw [e1] at h
      obtain ⟨h3, rfl⟩ := joinOk_ok h
      rw [strs'_ok h2 e1] at h1
      exact ⟨s, a, bs, rfl, rfl, .inr h1.sq, h3, q _ Hf H (.refl e) .str⟩
  · cases h
theorem reps_strs {K : PySem.W.Frag} {H : Hp} : ∀ ys : List Str, Reps K H (ys.map .str) (ys.map V.str)
  | [] => .nil
  | _ :: r => .cons .str (reps_strs r)
noncomputable def dSplit (s : Str) : Dat → Option Dat
  | .str b => if fits s.length ∧ (b.length == 0) = false then some (.lst ((Txt.split s b).map .str)) else none
  | _ => none
theorem dSplit_ok {K : PySem.W.Frag} : OpMO K (fun x xs H Q => ∃ a b, x = .str a ∧ xs = [.str b] ∧ (b.length == 0) = false ∧ a.length + 2 ≤ sizeLine ∧ rNewStrs (Txt.split a b) H Q) dSplit := by
  intro Hf H s y dy d e ry h Q q
  unfold dSplit at h
  split at h
  · split at h
    · rename_i z; cases h; cases ry.str
      refine ⟨s, _, rfl, rfl, z.2, Nat.le_trans (Nat.add_le_add_right (of_decide_eq_true z.1) 2) (by decide), fun p hp => q p _ hp (same_upd hp) ⟨.lst upd_same (reps_strs _), nofun⟩⟩
    · cases h
  · cases h
/-- the class of a datum -/
noncomputable def tyN : Dat → String
  | .non => "NoneType" | .bl _ => "bool" | .int _ => "int" | .str _ => "str" | .ty _ => "type" | .tup _ => "tuple" | .lst _ => "list" | .scr _ => "list" | .dic _ => "dict" | _ => "type"
noncomputable def isi1 (t c : String) : Option Bool :=
  if t = "type" then none else if c = "bool" ∨ c = "int" ∨ c = "str" ∨ c = "list" ∨ c = "tuple" ∨ c = "dict" then some (decide (t = c) || (decide (t = "bool") && decide (c = "int"))) else none
theorem isi1_ok {t c : String} {b : Bool} (ht : t = "NoneType" ∨ t = "bool" ∨ t = "int" ∨ t = "str" ∨ t = "tuple" ∨ t = "list" ∨ t = "dict") (h : isi1 t c = some b) : kitB t c = some b := by
  unfold isi1 at h
  split at h
  · cases h
  · split at h
    · rename_i hc
      cases h
      rcases ht with rfl | rfl | rfl | rfl | rfl | rfl | rfl <;> rcases hc with rfl | rfl | rfl | rfl | rfl | rfl <;> decide +kernel
    · cases h
theorem tyN_ok {K : PySem.W.Frag} {Hf H : Hp} {d : Dat} {v : V} (e : Same Hf H) (r : RepP K Hf H d v) (hn : tyN d ≠ "type") (hs : ∀ l, d ≠ .scr l) : TyX K H v (.type (tyN d)) ∧ (tyN d = "NoneType" ∨ tyN d = "bool" ∨ tyN d = "int" ∨ tyN d = "str" ∨ tyN d = "tuple" ∨ tyN d = "list" ∨ tyN d = "dict") := by
  cases d with
  | non => cases r.non; exact ⟨.base .non, by simp [tyN]⟩
  | bl b => cases r.bl; exact ⟨.base (.bl b), by simp [tyN]⟩
  | int b => cases r.int; exact ⟨.base (.int b), by simp [tyN]⟩
  | str b => cases r.str; exact ⟨.base (.str b), by simp [tyN]⟩
  | ty n => exact absurd rfl hn
  | tup l =>
    obtain ⟨a, xs, rfl, h1, h2⟩ := r.tup e
    rcases h1 with h1 | ⟨o, its, n, h1, h3, _⟩
    · exact ⟨.base (.tup h1), by simp [tyN]⟩
    · exact ⟨.kTuple h1 h3, by simp [tyN]⟩
  | lst l => obtain ⟨a, xs, rfl, h1, h2⟩ := r.lst e; exact ⟨.base (.lst h1), by simp [tyN]⟩
  | scr l => exact absurd rfl (hs l)
  | adr n => exact absurd rfl hn
  | dic l =>
    obtain ⟨a, xs, rfl, h1, h2⟩ := r.dic e
    rcases h1 with h1 | ⟨o, h1⟩
    · exact ⟨.base (.dK h1), by simp [tyN]⟩
    · exact ⟨.fDict h1, by simp [tyN]⟩
  | glo n => exact absurd rfl hn
  | obj n l => exact absurd rfl hn
  | exn a d n l => exact absurd rfl hn
  | dit l => exact absurd rfl hn
  | own l => exact absurd rfl hn
  | lck l => exact absurd rfl hn
noncomputable def notScr : Dat → Bool
  | .scr _ => false
  | .ty _ => false
  | .adr _ => false
  | .glo _ => false
  | .obj _ _ => false
  | .exn _ _ _ _ => false
  | .dit _ => false
  | .own _ => false
  | .lck _ => false
  | _ => true
noncomputable def tys : List Dat → Option (List String)
  | [] => some []
  | .ty b :: l => (tys l).map (b :: ·)
  | _ :: _ => none
noncomputable def kAny (t : String) : List String → Option Bool
  | [] => some false
  | c :: l => match isi1 t c with
    | some true => some true
    | some false => kAny t l
    | none => none
noncomputable def dIsi : List Dat → Option Dat
  | [d, .ty c] => if notScr d then (isi1 (tyN d) c).map .bl else none
  | [d, .tup l] => if notScr d then ((tys l).bind (kAny (tyN d))).map .bl else none
  | _ => none
end
end D

namespace D
open PySem L2

theorem CallR.or {X : Cx} {f : Value} {r r' : List V → Hp → VK → Prop} (h : CallR X f r) (h' : CallR X f r') : CallR X f (fun xs H Q => r xs H Q ∨ r' xs H Q) := by
  intro pins s σ H xs us Q I rv q
  rcases q with q | q
  · exact h pins s σ H xs us Q I rv q
  · exact h' pins s σ H xs us Q I rv q
noncomputable def rIsi3 (K : PySem.W.Frag) : List V → Hp → VK → Prop := fun xs H Q => rIsi K xs H Q ∨ rIsiT K xs H Q ∨ rIsiK K xs H Q
theorem call_isi3 {X : Cx} : CallR X (.builtin "isinstance") (rIsi3 X.K) := CallR.or call_isi (CallR.or call_isiT call_isiK)
theorem kAny_ok {K : PySem.W.Frag} {t : String} (ht : t = "NoneType" ∨ t = "bool" ∨ t = "int" ∨ t = "str" ∨ t = "tuple" ∨ t = "list" ∨ t = "dict") : ∀ {l : List String} {b : Bool}, kAny t l = some b → PySem.W.kitAny K (.type t) (l.map .type) = some b
  | [], b, h => by cases h; rfl
  | c :: l, b, h => by
    unfold kAny at h
    cases e : isi1 t c with
    | none => rw [e] at h; cases h
    | some k =>
      rw [e] at h
      have hk : PySem.W.kitOne K (.type t) (.type c) = some k := kit_ty (isi1_ok ht e)
      cases k with
      | true => cases h; exact kitAny_cons hk (fun z => by cases z) (fun _ => rfl)
      | false => exact kitAny_cons hk (fun _ => kAny_ok ht h) (fun z => by cases z)
theorem tys_ok {K : PySem.W.Frag} {H : Hp} : ∀ {l : List Dat} {xs : List V} {bs : List String}, Reps K H l xs → tys l = some bs → xs = bs.map V.ty
  | _, _, _, .nil, h => by cases h; rfl
  | .ty b :: l, _, bs, .cons h1 r, h => by
    unfold tys at h
    cases e : tys l with
    | none => rw [e] at h; cases h
    | some cs => rw [e] at h; cases h; cases h1; rw [tys_ok r e]; rfl
  | .non :: _, _, _, .cons _ _, h => by cases h
  | .int _ :: _, _, _, .cons _ _, h => by cases h
  | .bl _ :: _, _, _, .cons _ _, h => by cases h
  | .str _ :: _, _, _, .cons _ _, h => by cases h
  | .tup _ :: _, _, _, .cons _ _, h => by cases h
  | .lst _ :: _, _, _, .cons _ _, h => by cases h
  | .scr _ :: _, _, _, .cons _ _, h => by cases h
  | .dic _ :: _, _, _, .cons _ _, h => by cases h
  | .adr _ :: _, _, _, .cons _ _, h => by cases h
  | .glo _ :: _, _, _, .cons _ _, h => by cases h
  | .obj _ _ :: _, _, _, .cons _ _, h => by cases h
  | .exn _ _ _ _ :: _, _, _, .cons _ _, h => by cases h
  | .dit _ :: _, _, _, .cons _ _, h => by cases h
  | .own _ :: _, _, _, .cons _ _, h => by cases h
  | .lck _ :: _, _, _, .cons _ _, h => by cases h
theorem paired_ty : ∀ bs : List String, Paired ClsV (bs.map V.ty) (bs.map Value.type)
  | [] => .nil
  | b :: r => .cons (.ty b) (paired_ty r)
theorem vals_ty : ∀ {bs : List String} {us : List Value}, Vals (bs.map V.ty) us → us = bs.map Value.type
  | [], _, .nil => rfl
  | _ :: _, _, .cons r t => by rw [vals_ty t]; cases r; rfl
theorem dIsi_ok {K : PySem.W.Frag} : OpC K (rIsi3 K) dIsi := by
  intro Hf H xs ds d e r h Q q
  unfold dIsi at h
  split at h
  · obtain ⟨v, u, rfl, r1, r2⟩ := r.two'
    rename_i dd c
    split at h
    · rename_i hn
      cases r2.ty
      cases e1 : isi1 (tyN dd) c with
      | none => rw [e1] at h; cases h
      | some b =>
        rw [e1] at h; cases h
        have nt : tyN dd ≠ "type" := fun z => by rw [z] at e1; cases e1
        obtain ⟨h1, h2⟩ := tyN_ok e (.inl r1) nt fun l z => by rw [z] at hn; cases hn
        exact .inl ⟨v, _, _, _, b, rfl, .ty c, h1, kit_ty (isi1_ok h2 e1), q _ Hf H (.refl e) .bl⟩
    · cases h
  · obtain ⟨v, u, rfl, r1, r2⟩ := r.two'
    rename_i dd l
    split at h
    · rename_i hn
      cases e1 : tys l with
      | none => rw [e1] at h; cases h
      | some cs =>
        rw [e1] at h
        have h : (kAny (tyN dd) cs).map Dat.bl = some d := h
        cases e2 : kAny (tyN dd) cs with
        | none => rw [e2] at h; cases h
        | some b =>
          rw [e2] at h; cases h
          obtain ⟨a, xs, rfl, h1, h2⟩ := r2.tup e
          have nt : tyN dd ≠ "type" := fun z => by cases dd <;> first | (cases hn; done) | (exact absurd z (by simp [tyN]))
          · obtain ⟨h3, h4⟩ := tyN_ok e (.inl r1) nt fun l z => by rw [z] at hn; cases hn
            have h5 := kAny_ok (K := K) h4 e2
            have ex := tys_ok h2 e1
            subst ex
            rcases h1 with h1 | ⟨o, its, n, k1, k2, k3, k4, k5⟩
            · exact .inr (.inl ⟨v, a, _, _, _, b, rfl, h1, paired_ty cs, h3, h5, q _ Hf H (.refl e) .bl⟩)
            · obtain ⟨oc, od, odt, osl⟩ := o
              have kk : its = (cs.map Value.type).toArray := by rw [← vals_ty k5]
              cases k2; cases k3
              rw [kk] at k1
              exact .inr (.inr ⟨v, a, _, _, _, _, _, b, rfl, k1, h3, h5, q _ Hf H (.refl e) .bl⟩)
    · cases h
  · cases h

/-! ### arguments -/
section
variable {X : Cx} {W : WX} {np : Nat} {a b c e o : Expr} {es : List Expr} {pos apos : Pos} {ma mb mc : M Dat} {ms : M (List Ai)}
theorem da_nil : DA X W np [] (ret []) := PA.wk pa_nil fun σ H Q ⟨Hf, η, R, p⟩ => p Hf H σ R .refl rfl [] .nil
theorem da_va (h : DE X W np e ma) (hr : DA X W np es ms) (hs : starEach (e :: es) X.env = (false, eval e X.env) :: starEach es X.env := by rfl) : DA X W np (e :: es) (bnd ma fun d => bnd ms fun l => ret (.va d :: l)) := by
  refine PA.wk (pa_cons h hr hs) fun σ H Q ⟨Hf, η, R, p⟩ => ⟨Hf, η, R, p.bnd fun d Hf1 H1 η1 σ1 R1 S1 p1 e1 v rv => ?_⟩
  subst e1
  refine ⟨Hf1, η1, R1, p1.bnd fun l Hf2 H2 η2 σ2 R2 S2 p2 e2 vs rvs => ?_⟩
  subst e2
  exact p2.ret R2 rfl (v :: vs) (.va (rv.mono S2.ef) rvs)
theorem da_io (i : Nat) {x : Str} {px : Pos} (h : PE X (.Name x px) (tVar i)) (hr : DA X W np es ms) (hs : starEach (.Name x px :: es) X.env = (false, eval (.Name x px) X.env) :: starEach es X.env := by rfl) : DA X W np (.Name x px :: es) (bnd (mPeek i) fun _ => bnd ms fun l => ret (.io i :: l)) := by
  refine PA.wk (pa_cons h hr hs) fun σ H Q ⟨Hf, η, R, p⟩ => ?_
  obtain ⟨_, v, hv, _, p1⟩ := p.peek R
  refine ⟨v, hv, Hf, η, R, p1.bnd fun l Hf2 H2 η2 σ2 R2 S2 p2 e2 vs rvs => ?_⟩
  subst e2
  exact p2.ret R2 rfl (v :: vs) (.io hv rvs)
end

/-! ### a call of a def -/
noncomputable def argS (η : En) : List Ai → List Sl
  | [] => []
  | .va d :: l => .fr d :: argS η l
  | .io i :: l => (η[i]?).getD .no :: argS η l
noncomputable def ios : List Ai → List Nat
  | [] => []
  | .va _ :: l => ios l
  | .io i :: l => i :: ios l
noncomputable def putBack : List Ai → List Sl → En → En
  | .va _ :: l, _ :: s, η => putBack l s η
  | .io i :: l, x :: s, η => (putBack l s η).set i x
  | _, _, η => η
noncomputable def callF (n : Nat) (F : M Sl) (its : List Ai) : M Sl := fun η => if (ios its).Nodup ∧ its.length = n then match F (argS η its) with
    | .ok r as => .ok r (putBack its as η)
    | .rs x as => .rs x (putBack its as η)
    | .bad => .bad
  else .bad
noncomputable def resS (K : PySem.W.Frag) (Hf H : Hp) (η : En) (σ : St) (Q : VK) : Sl → Hp → Hp → En → St → Prop
  | .fr d, Hf', H', _, _ => ∀ v, Rep K Hf' d v → Q v H'
  | .ow d, Hf', H', as', σ' => ∀ p F, OwnAt K Hf' H' F p d → Fsh K Hf H η σ Hf' H' as' σ' F → Q (.ref p) H'
  | .no, _, _, _, _ => False
/-- a def's promise by its mirror -/
noncomputable def spD (K : PySem.W.Frag) (np : Nat) (F : M Sl) : Sp := fun vs H Q E => vs.length = np ∧ ∃ Hf as, Rl K Hf H as (vs.map some) ∧ Pst K np (fun cls d σ' H => σ' = vs.map some → E cls d H) Hf H as (vs.map some) (fun r Hf' H' as' σ' => σ' = vs.map some → resS K Hf H as (vs.map some) Q r Hf' H' as' σ') (F as)

theorem putBack_len : ∀ (its : List Ai) (as : List Sl) (η : En), (putBack its as η).length = η.length
  | [], _, _ => rfl
  | .va _ :: l, [], _ => rfl
  | .io _ :: l, [], _ => rfl
  | .va _ :: l, _ :: s, η => putBack_len l s η
  | .io i :: l, x :: s, η => by
    show ((putBack l s η).set i x).length = _
    rw [List.length_set]; exact putBack_len l s η
theorem putBack_get : ∀ {its : List Ai} {as : List Sl} {η : En} {j : Nat} {s : Sl}, as.length = its.length → (putBack its as η)[j]? = some s → (∃ k : Nat, its[k]? = some (.io j) ∧ as[k]? = some s) ∨ (j ∉ ios its ∧ η[j]? = some s)
  | [], _, _, _, _, _, h => .inr ⟨by simp [ios], h⟩
  | .va _ :: l, [], _, _, _, hl, _ => by simp at hl
  | .io _ :: l, [], _, _, _, hl, _ => by simp at hl
  | .va _ :: l, x :: as, η, j, s, hl, h => by
    rcases putBack_get (its := l) (as := as) (by simpa using hl) h with ⟨k, h1, h2⟩ | h
    · exact .inl ⟨k + 1, by simpa using h1, by simpa using h2⟩
    · exact .inr h
  | .io i :: l, x :: as, η, j, s, hl, h => by
    rcases set_get (show ((putBack l as η).set i x)[j]? = some s from h) with ⟨e, e2⟩ | ⟨ne, h⟩
    · exact .inl ⟨0, by simp [e], by simp [e2]⟩
    · rcases putBack_get (its := l) (as := as) (by simpa using hl) h with ⟨k, h1, h2⟩ | ⟨h1, h2⟩
      · exact .inl ⟨k + 1, by simpa using h1, by simpa using h2⟩
      · refine .inr ⟨fun z => ?_, h2⟩
        rcases List.mem_cons.mp z with z | z
        · exact ne z
        · exact h1 z
theorem mem_ios : ∀ {its : List Ai} {k : Nat} {i : Nat}, its[k]? = some (.io i) → i ∈ ios its
  | [], _, _, h => by simp at h
  | .va _ :: l, 0, _, h => by simp at h
  | .io _ :: l, 0, _, h => by simp at h; subst h; simp [ios]
  | .va _ :: l, k + 1, _, h => mem_ios (its := l) (k := k) (by simpa using h)
  | .io _ :: l, k + 1, _, h => List.mem_cons_of_mem _ (mem_ios (its := l) (k := k) (by simpa using h))
theorem ios_inj : ∀ {its : List Ai} {k m : Nat} {i : Nat}, (ios its).Nodup → its[k]? = some (.io i) → its[m]? = some (.io i) → k = m
  | [], _, _, _, _, h, _ => by simp at h
  | .va _ :: l, 0, _, _, _, h, _ => by simp at h
  | .va _ :: l, _ + 1, 0, _, _, _, h => by simp at h
  | .va _ :: l, k + 1, m + 1, i, nd, h1, h2 => congrArg (· + 1) (ios_inj (its := l) nd (by simpa using h1) (by simpa using h2))
  | .io _ :: l, 0, 0, _, _, _, _ => rfl
  | .io j :: l, 0, m + 1, i, nd, h1, h2 => by
    simp at h1; subst h1
    exact absurd (mem_ios (its := l) (k := m) (by simpa using h2)) (List.nodup_cons.mp nd).1
  | .io j :: l, k + 1, 0, i, nd, h1, h2 => by
    simp at h2; subst h2
    exact absurd (mem_ios (its := l) (k := k) (by simpa using h1)) (List.nodup_cons.mp nd).1
  | .io j :: l, k + 1, m + 1, i, nd, h1, h2 => congrArg (· + 1) (ios_inj (its := l) (List.nodup_cons.mp nd).2 (by simpa using h1) (by simpa using h2))
theorem argS_len (η : En) : ∀ its : List Ai, (argS η its).length = its.length
  | [] => rfl
  | .va _ :: l => congrArg (· + 1) (argS_len η l)
  | .io _ :: l => congrArg (· + 1) (argS_len η l)
theorem Ais.len {K : PySem.W.Frag} {Hf : Hp} {σ : St} : ∀ {its : List Ai} {vs : List V}, Ais K Hf σ its vs → its.length = vs.length
  | _, _, .nil => rfl
  | _, _, .va _ r => congrArg (· + 1) r.len
  | _, _, .io _ r => congrArg (· + 1) r.len
theorem argS_get {K : PySem.W.Frag} {Hf : Hp} {σ : St} {η : En} : ∀ {its : List Ai} {vs : List V} {k : Nat} {s : Sl}, Ais K Hf σ its vs → (argS η its)[k]? = some s →
    (∃ d v, its[k]? = some (.va d) ∧ s = .fr d ∧ vs[k]? = some v ∧ Rep K Hf d v) ∨ (∃ i v, its[k]? = some (.io i) ∧ s = (η[i]?).getD .no ∧ vs[k]? = some v ∧ σ[i]? = some (some v))
  | _, _, k, _, .nil, h => by simp [argS] at h
  | _, _, 0, s, .va (d := d) (v := v) h r, e => by
    simp [argS] at e
    exact .inl ⟨d, v, rfl, e.symm, rfl, h⟩
  | _, _, 0, s, .io (i := i) (v := v) h r, e => by
    simp [argS] at e
    exact .inr ⟨i, v, rfl, e.symm, rfl, h⟩
  | _, _, k + 1, s, .va h r, e => by
    have := argS_get (k := k) (η := η) r (by simpa [argS] using e)
    simpa using this
  | _, _, k + 1, s, .io h r, e => by
    have := argS_get (k := k) (η := η) r (by simpa [argS] using e)
    simpa using this

section
variable {K : PySem.W.Frag} {np np' : Nat} {Hf H Hf' H' : Hp} {η : En} {σ : St} {its : List Ai} {vs : List V} {as' : List Sl}
theorem getD_ow {i : Nat} {d : Dat} (h : (η[i]?).getD Sl.no = .ow d) : η[i]? = some (.ow d) := by
  cases e : η[i]? with
  | none => rw [e] at h; cases h
  | some s => rw [e] at h; cases h; rfl
theorem getD_fr {i : Nat} {d : Dat} (h : (η[i]?).getD Sl.no = .fr d) : η[i]? = some (.fr d) := by
  cases e : η[i]? with
  | none => rw [e] at h; cases h
  | some s => rw [e] at h; cases h; rfl
theorem arg_ow {k : Nat} {d : Dat} (A : Ais K Hf σ its vs) (h : (argS η its)[k]? = some (.ow d)) : ∃ i v, its[k]? = some (.io i) ∧ η[i]? = some (.ow d) ∧ vs[k]? = some v ∧ σ[i]? = some (some v) := by
  rcases argS_get A h with ⟨_, _, _, q, _⟩ | ⟨i, v, q1, q2, q3, q4⟩
  · cases q
  · exact ⟨i, v, q1, getD_ow q2.symm, q3, q4⟩
theorem map_some_get {k : Nat} {x : Option V} (h : (vs.map some)[k]? = some x) : ∃ v, vs[k]? = some v ∧ x = some v := by
  rw [List.getElem?_map] at h
  cases e : vs[k]? with
  | none => rw [e] at h; cases h
  | some v => rw [e] at h; cases h; exact ⟨v, rfl, rfl⟩
theorem get_map_some {k : Nat} {v : V} (h : vs[k]? = some v) : (vs.map some)[k]? = some (some v) := by rw [List.getElem?_map, h]; rfl
/-- the callee's entry -/
theorem Rl.args (R : Rl K Hf H η σ) (A : Ais K Hf σ its vs) (nd : (ios its).Nodup) : Rl K Hf H (argS η its) (vs.map some) where
  ex := R.ex
  len := by rw [argS_len, List.length_map]; exact A.len
  fr := fun k d h => by
    rcases argS_get A h with ⟨d', v, _, q1, q2, q3⟩ | ⟨i, v, _, q2, q3, q4⟩
    · cases q1; exact ⟨v, get_map_some q2, q3⟩
    · obtain ⟨v', h1, h2⟩ := R.fr i d (getD_fr q2.symm)
      rw [q4] at h1; cases h1
      exact ⟨v, get_map_some q3, h2⟩
  ow := fun k d h => by
    obtain ⟨i, v, q1, q2, q3, q4⟩ := arg_ow A h
    obtain ⟨a, F, h1, h2⟩ := R.ow i d q2
    rw [q4] at h1; cases h1
    exact ⟨a, F, get_map_some q3, h2⟩
  ap := fun k m d e a b F G c h1 h2 h3 h4 h5 h6 h7 h8 => by
    obtain ⟨i, v, q1, q2, q3, q4⟩ := arg_ow A h1
    obtain ⟨j, u, r1, r2, r3, r4⟩ := arg_ow A h2
    obtain ⟨v', z1, z2⟩ := map_some_get h3
    obtain ⟨u', z3, z4⟩ := map_some_get h4
    rw [q3] at z1; cases z1; cases z2
    rw [r3] at z3; cases z3; cases z4
    have := R.ap i j d e a b F G c q2 r2 q4 r4 h5 h6 h7 h8
    subst this
    exact ios_inj nd q1 r1
theorem own_args (A : Ais K Hf σ its vs) {b : Addr} (h : Own K Hf H (argS η its) (vs.map some) b) : Own K Hf H η σ b := by
  obtain ⟨k, d, a, F, h1, h2, h3⟩ := h
  obtain ⟨i, v, q1, q2, q3, q4⟩ := arg_ow A h1
  obtain ⟨v', z1, z2⟩ := map_some_get h2
  rw [q3] at z1; cases z1; cases z2
  exact ⟨i, d, a, F, q2, q4, h3⟩
theorem its_val (A : Ais K Hf σ its vs) {k i : Nat} (h : its[k]? = some (.io i)) : ∃ v, vs[k]? = some v ∧ σ[i]? = some (some v) := by
  induction A generalizing k with
  | nil => simp at h
  | va _ _ ih =>
    cases k with
    | zero => simp at h
    | succ k => obtain ⟨v, h1, h2⟩ := ih (k := k) (by simpa using h); exact ⟨v, by simpa using h1, h2⟩
  | io hh _ ih =>
    cases k with
    | zero => simp at h; subst h; exact ⟨_, rfl, hh⟩
    | succ k => obtain ⟨v, h1, h2⟩ := ih (k := k) (by simpa using h); exact ⟨v, by simpa using h1, h2⟩
/-- behind the call -/
theorem Rl.back (R : Rl K Hf H η σ) (A : Ais K Hf σ its vs) (nd : (ios its).Nodup) (hn : its.length ≤ np') (R' : Rl K Hf' H' as' (vs.map some)) (S' : Stp K np' Hf H (argS η its) (vs.map some) Hf' H' as' (vs.map some)) :
    Rl K Hf' H' (putBack its as' η) σ ∧ Stp K np Hf H η σ Hf' H' (putBack its as' η) σ := by
  have hlen : as'.length = its.length := by rw [R'.len, List.length_map]; exact A.len.symm
  -- an owned slot behind: as it was, or handed in
  have back : ∀ (j : Nat) d, (putBack its as' η)[j]? = some (.ow d) → (∃ d0, η[j]? = some (.ow d0)) ∧ ((∃ k : Nat, its[k]? = some (.io j) ∧ as'[k]? = some (.ow d)) ∨ (j ∉ ios its ∧ η[j]? = some (.ow d))) := fun j d h => by
    rcases putBack_get hlen h with ⟨k, h1, h2⟩ | ⟨h1, h2⟩
    · have hk : k < np' := Nat.lt_of_lt_of_le (List.getElem?_eq_some_iff.mp h1).1 hn
      obtain ⟨⟨d0, h3⟩, _⟩ := S'.pr k d hk h2
      obtain ⟨i, v, q1, q2, q3, q4⟩ := arg_ow A h3
      rw [h1] at q1; cases q1
      exact ⟨⟨d0, q2⟩, .inl ⟨k, h1, h2⟩⟩
    · exact ⟨⟨d, h2⟩, .inr ⟨h1, h2⟩⟩
  -- what a slot owns that was not handed in is off the callee's
  have notown : ∀ (j : Nat) d a F, j ∉ ios its → η[j]? = some (.ow d) → σ[j]? = some (some (.ref a)) → OwnAt K Hf H F a d → ∀ c ∈ F, ¬ Own K Hf H (argS η its) (vs.map some) c := fun j d a F hj h1 h2 h3 c hc ⟨k, e, b, G, q1, q2, q3, q5⟩ => by
    obtain ⟨i, v, z1, z2, z3, z4⟩ := arg_ow A q1
    obtain ⟨v', y1, y2⟩ := map_some_get q2
    rw [z3] at y1; cases y1; cases y2
    have := R.ap j i d e a b F G c h1 z2 h2 z4 h3 q3 hc q5
    subst this
    exact hj (mem_ios z1)
  have keep : ∀ (j : Nat) d a F, j ∉ ios its → η[j]? = some (.ow d) → σ[j]? = some (some (.ref a)) → OwnAt K Hf H F a d → ∀ c ∈ F, ∀ u, H c = some u → H' c = some u := fun j d a F hj h1 h2 h3 c hc u hu => S'.fr c u hu (notown j d a F hj h1 h2 h3 c hc)
  have addr : ∀ {k : Nat} {j : Nat} {x : V}, its[k]? = some (.io j) → σ[j]? = some (some x) → (vs.map some)[k]? = some (some x) := fun {k j x} h1 h2 => by
    obtain ⟨v2, y1, y2⟩ := its_val A h1
    rw [h2] at y2; cases y2
    exact get_map_some y1
  -- the callee's slot, or the caller's own as it was
  have which : ∀ (j : Nat) d a F, (putBack its as' η)[j]? = some (.ow d) → σ[j]? = some (some (.ref a)) → OwnAt K Hf' H' F a d → (∃ k : Nat, its[k]? = some (.io j) ∧ as'[k]? = some (.ow d) ∧ (vs.map some)[k]? = some (some (.ref a))) ∨ (j ∉ ios its ∧ η[j]? = some (.ow d) ∧ OwnAt K Hf H F a d) := fun j d a F h1 h2 h3 => by
    rcases (back j d h1).2 with ⟨k, g1, g2⟩ | ⟨g1, g2⟩
    · exact .inl ⟨k, g1, g2, addr g1 h2⟩
    · exact .inr ⟨g1, g2, R.ownNow S'.ef R'.ex g2 h2 h3 fun G o => keep j d a G g1 g2 h2 o⟩
  have own : ∀ c, Own K Hf' H' (putBack its as' η) σ c → Own K Hf' H' as' (vs.map some) c ∨ ∃ j d a F, j ∉ ios its ∧ η[j]? = some (.ow d) ∧ σ[j]? = some (some (.ref a)) ∧ OwnAt K Hf H F a d ∧ c ∈ F := fun c ⟨j, d, a, F, h1, h2, h3, h4⟩ => by
    rcases which j d a F h1 h2 h3 with ⟨k, g1, g2, g3⟩ | ⟨g1, g2, g3⟩
    · exact .inl ⟨k, d, a, F, g2, g3, h3, h4⟩
    · exact .inr ⟨j, d, a, F, g1, g2, h2, g3, h4⟩
  refine ⟨⟨R'.ex, by rw [putBack_len]; exact R.len, fun j d h => ?_, fun j d h => ?_, fun i j d e a b F G c h1 h2 h3 h4 h5 h6 h7 h8 => ?_⟩, ⟨S'.ef, fun b o h n => S'.fr b o h fun z => n (own_args A z), S'.nn, fun b h => ?_, fun b o h => ?_, fun i d hi h => ?_⟩⟩
  · rcases putBack_get hlen h with ⟨k, h1, h2⟩ | ⟨h1, h2⟩
    · obtain ⟨v, q1, q2⟩ := R'.fr k d h2
      obtain ⟨v', z1, z2⟩ := map_some_get q1
      cases z2
      obtain ⟨v2, y1, y2⟩ := its_val A h1
      rw [z1] at y1; cases y1
      exact ⟨v, y2, q2⟩
    · obtain ⟨v, q1, q2⟩ := R.fr j d h2
      exact ⟨v, q1, q2.mono S'.ef⟩
  · rcases putBack_get hlen h with ⟨k, h1, h2⟩ | ⟨h1, h2⟩
    · obtain ⟨a, F, q1, q2⟩ := R'.ow k d h2
      obtain ⟨v', z1, z2⟩ := map_some_get q1
      cases z2
      obtain ⟨v2, y1, y2⟩ := its_val A h1
      rw [z1] at y1; cases y1
      exact ⟨a, F, y2, q2⟩
    · obtain ⟨a, F, q1, q2, q3⟩ := R.ow j d h2
      refine ⟨a, F, q1, q2.mono S'.ef R'.ex (keep j d a F h1 h2 q1 q2), fun c hc => ?_⟩
      obtain ⟨u, hu⟩ := q2.there c hc
      cases z : Hf' c with
      | none => rfl
      | some o =>
        rcases S'.nf c o z with y | y | y
        · rw [q3 c hc] at y; cases y
        · rw [hu] at y; cases y
        · exact absurd y (notown j d a F h1 h2 q1 q2 c hc)
  · -- two slots that own the same
    have no : ∀ (k : Nat) (d e : Dat) (a b : Addr) (F G : List Addr) (j : Nat), as'[k]? = some (.ow d) → (vs.map some)[k]? = some (some (.ref a)) → OwnAt K Hf' H' F a d → c ∈ F → j ∉ ios its → η[j]? = some (.ow e) → σ[j]? = some (some (.ref b)) → OwnAt K Hf H G b e → c ∈ G → False := fun k d e a b F G j g1 g2 g3 g4 g5 g6 g7 g8 g9 => by
      rcases S'.ow c ⟨k, d, a, F, g1, g2, g3, g4⟩ with z | z
      · exact notown j e b G g5 g6 g7 g8 c g9 z
      · obtain ⟨u, hu⟩ := g8.there c g9
        rw [hu] at z; cases z
    rcases which i d a F h1 h3 h5 with ⟨k, g1, g2, g3⟩ | ⟨g1, g2, g3⟩
    · rcases which j e b G h2 h4 h6 with ⟨m, w1, w2, w3⟩ | ⟨w1, w2, w3⟩
      · have := R'.ap k m d e a b F G c g2 w2 g3 w3 h5 h6 h7 h8
        subst this
        rw [g1] at w1; cases w1; rfl
      · exact (no k d e a b F G j g2 g3 h5 h7 w1 w2 h4 w3 h8).elim
    · rcases which j e b G h2 h4 h6 with ⟨m, w1, w2, w3⟩ | ⟨w1, w2, w3⟩
      · exact (no m e d b a G F i w2 w3 h6 h8 g1 g2 h3 g3 h7).elim
      · exact R.ap i j d e a b F G c g2 w2 h3 h4 g3 w3 h7 h8
  · rcases own b h with z | ⟨j, d, a, F, g1, g2, g3, g4, g5⟩
    · rcases S'.ow b z with y | y
      · exact .inl (own_args A y)
      · exact .inr y
    · exact .inl ⟨j, d, a, F, g2, g3, g4, g5⟩
  · rcases S'.nf b o h with y | y | y
    · exact .inl y
    · exact .inr (.inl y)
    · exact .inr (.inr (own_args A y))
  · obtain ⟨g, _⟩ := back i d h
    exact ⟨g, rfl⟩
/-- what the callee tells as new is new to the caller -/
theorem Rl.backFsh (R : Rl K Hf H η σ) (A : Ais K Hf σ its vs) (R' : Rl K Hf' H' as' (vs.map some)) (S' : Stp K np' Hf H (argS η its) (vs.map some) Hf' H' as' (vs.map some)) (hn : its.length ≤ np') {F : List Addr} (fs : Fsh K Hf H (argS η its) (vs.map some) Hf' H' as' (vs.map some) F) : Fsh K Hf H η σ Hf' H' (putBack its as' η) σ F := fun b hb => by
  refine ⟨(fs b hb).1.imp id (own_args A), (fs b hb).2.1, fun ⟨j, d, a, G, h1, h2, h3, h4⟩ => ?_⟩
  have hlen : as'.length = its.length := by rw [R'.len, List.length_map]; exact A.len.symm
  rcases putBack_get hlen h1 with ⟨k, g1, g2⟩ | ⟨g1, g2⟩
  · obtain ⟨v2, y1, y2⟩ := its_val A g1
    rw [h2] at y2; cases y2
    exact (fs b hb).2.2 ⟨k, d, a, G, g2, get_map_some y1, h3, h4⟩
  · obtain ⟨a', G', q1, q2, q3⟩ := R.ow j d g2
    rw [h2] at q1; cases q1
    have kk : ∀ c ∈ G', ∀ u, H c = some u → H' c = some u := fun c hc u hu => S'.fr c u hu fun ⟨k, e, b2, G2, w1, w2, w3, w4⟩ => by
      obtain ⟨i, v, z1, z2, z3, z4⟩ := arg_ow A w1
      obtain ⟨v', x1, x2⟩ := map_some_get w2
      rw [z3] at x1; cases x1; cases x2
      have := R.ap j i d e a b2 G' G2 c g2 z2 h2 z4 q2 w3 hc w4
      subst this
      exact g1 (mem_ios z1)
    have e := h3.uniq (q2.mono S'.ef R'.ex kk)
    subst e
    obtain ⟨u, hu⟩ := q2.there b h4
    rcases (fs b hb).1 with z | ⟨k, e, b2, G2, w1, w2, w3, w4⟩
    · rw [z] at hu; cases hu
    · obtain ⟨i, v, z1, z2, z3, z4⟩ := arg_ow A w1
      obtain ⟨v', x1, x2⟩ := map_some_get w2
      rw [z3] at x1; cases x1; cases x2
      have := R.ap j i d e a b2 G G2 b g2 z2 h2 z4 q2 w3 h4 w4
      subst this
      exact g1 (mem_ios z1)
end

section
variable {X : Cx} {W : WX} {np : Nat} {a b c e o : Expr} {es : List Expr} {pos apos p : Pos} {ma mb mc : M Dat} {ms : M (List Ai)} {k n : Nat} {f : Addr} {fd : FuncData} {ps : List Str} {F : M Sl} {x : Str}
noncomputable def dRes : Sl → Option Dat
  | .fr d => some d
  | .ow d => some (dfr d)
  | .no => none
noncomputable def oRes : Sl → Option Dat
  | .ow (.own _) => none
  | .ow d => some d
  | _ => none
theorem oRes_ok {s : Sl} {d : Dat} (h : oRes s = some d) : s = .ow d ∧ ∀ t, d ≠ .own t := by
  unfold oRes at h
  split at h
  · cases h
  · rename_i d' hd; cases h; exact ⟨rfl, fun t z => hd t z⟩
  · cases h
/-- the promise, from a caller's state -/
theorem sp_call {K : PySem.W.Frag} {Hf H : Hp} {η : En} {σ : St} {its : List Ai} {vs : List V} {Q : VK} (r : Rl K Hf H η σ) (A : Ais K Hf σ its vs) (hb : callF n F its η ≠ .bad)
    (h : ∀ s η', callF n F its η = .ok s η' → ∀ Hf' H', Rl K Hf' H' η' σ → Stp K np Hf H η σ Hf' H' η' σ → resS K Hf H η σ Q s Hf' H' η' σ)
    (hx : ∀ x η', callF n F its η = .rs x η' → ∀ Hf' H' dx, Rl K Hf' H' η' σ → Stp K np Hf H η σ Hf' H' η' σ → PayAt K H Hf' H' x dx → W (.ref (He.ga K x.cls)) dx σ H') : spD K n F vs H Q (fun cls d H => W cls d σ H) := by
  unfold callF at hb h hx
  by_cases nd : (ios its).Nodup ∧ its.length = n
  · rw [if_pos nd] at hb h hx
    obtain ⟨nd, hn⟩ := nd
    refine ⟨by rw [← A.len]; exact hn, Hf, argS η its, r.args A nd, ?_⟩
    cases z : F (argS η its) with
    | ok s as' =>
      rw [z] at h
      intro Hf' H' σ' R' S' e1
      subst e1
      obtain ⟨rb, sb⟩ := Rl.back (np := np) r A nd (Nat.le_of_eq hn) R' S'
      have q := h s _ rfl Hf' H' rb sb
      cases s with
      | no => exact q
      | fr d => exact q
      | ow d => exact fun pa Fo o fs => q pa Fo o (Rl.backFsh r A R' S' (Nat.le_of_eq hn) fs)
    | rs xx as' =>
      rw [z] at hx
      intro Hf' H' σ' dx R' S' pay e1
      subst e1
      obtain ⟨rb, sb⟩ := Rl.back (np := np) r A nd (Nat.le_of_eq hn) R' S'
      exact hx xx _ rfl Hf' H' dx rb sb pay
    | bad => rw [z] at hb; exact hb rfl
  · rw [if_neg nd] at hb
    exact absurd rfl hb
theorem Ais.vas {K : PySem.W.Frag} {Hf : Hp} {σ : St} : ∀ {dds : List Dat} {dvs : List V}, Reps K Hf dds dvs → Ais K Hf σ (dds.map .va) dvs
  | _, _, .nil => .nil
  | _, _, .cons h r => .va h (Ais.vas r)
theorem Ais.app {K : PySem.W.Frag} {Hf : Hp} {σ : St} {dds : List Dat} {dvs : List V} : ∀ {its : List Ai} {vs : List V}, Ais K Hf σ its vs → Reps K Hf dds dvs → Ais K Hf σ (its ++ dds.map .va) (vs ++ dvs)
  | _, _, .nil, r => Ais.vas r
  | _, _, .va h r, s => .va h (r.app s)
  | _, _, .io h r, s => .io h (r.app s)
theorem Ais.mono {K : PySem.W.Frag} {Hf Hf' : Hp} {σ : St} (e : Same Hf Hf') : ∀ {its : List Ai} {vs : List V}, Ais K Hf σ its vs → Ais K Hf' σ its vs
  | _, _, .nil => .nil
  | _, _, .va h r => .va (h.mono e) (r.mono e)
  | _, _, .io h r => .io h (r.mono e)
/-- the reading of a call, once the arguments are there -/
theorem rd_call {K : PySem.W.Frag} {Hf H : Hp} {η : En} {σ : St} {its : List Ai} {vs : List V} {Q : VK} (r : Rl K Hf H η σ) (A : Ais K Hf σ its vs)
    (pp : Pst K np W Hf H η σ (fun d Hf' H' _ σ' => σ' = σ → ∀ v, Rep K Hf' d v → Q v H') (bnd (callF n F its) (fun r => lft (dRes r)) η)) : spD K n F vs H (fun v H' => Lk (Q v) H') (fun cls d H => W cls d σ H) := by
  unfold bnd at pp
  refine sp_call (np := np) r A (fun z => by rw [z] at pp; exact pp) (fun s η' z Hf' H' R' S' => ?_) (fun x η' z Hf' H' dx R' S' pay => ?_)
  · rw [z] at pp
    cases s with
    | no => exact pp
    | fr d => exact fun v rv => .now (pp Hf' H' σ R' S' rfl v rv)
    | ow d =>
      intro p Fo o fs
      exact (freezeNew R' S' o fs).imp fun H2 ⟨Hf2, r2, s2, rp⟩ => pp Hf2 H2 σ r2 s2 rfl _ rp
  · rw [z] at pp
    exact pp Hf' H' σ dx R' S' pay
theorem rd_callO {K : PySem.W.Frag} {Hf H H0 : Hp} {η : En} {σ : St} {its : List Ai} {vs : List V} {Q : VK} (r : Rl K Hf H η σ) (A : Ais K Hf σ its vs) {Hf0 : Hp} {η0 : En} {σ0 : St} (h0 : ∀ p, Nw K Hf H η σ p → Nw K Hf0 H0 η0 σ0 p)
    (pp : Pst K np W Hf H η σ (fun d Hf' H' η' σ' => σ' = σ → ∀ p, Nw K Hf0 H0 η0 σ0 p → Hf' p = none → OwnF K Hf' H' p d → ¬ Own K Hf' H' η' σ' p → Q (.ref p) H') (bnd (callF n F its) (fun r => lft (oRes r)) η)) : spD K n F vs H Q (fun cls d H => W cls d σ H) := by
  unfold bnd at pp
  refine sp_call (np := np) r A (fun z => by rw [z] at pp; exact pp) (fun s η' z Hf' H' R' S' => ?_) (fun x η' z Hf' H' dx R' S' pay => ?_)
  · rw [z] at pp
    cases s with
    | no => exact pp
    | fr d => exact False.elim pp
    | ow d =>
      have pp : Pst K np W Hf H η σ (fun d Hf' H' η' σ' => σ' = σ → ∀ p, Nw K Hf0 H0 η0 σ0 p → Hf' p = none → OwnF K Hf' H' p d → ¬ Own K Hf' H' η' σ' p → Q (.ref p) H') (lft (oRes (.ow d)) η') := pp
      cases zz : oRes (.ow d) with
      | none => rw [zz] at pp; exact False.elim pp
      | some d' =>
        obtain ⟨e1, fl⟩ := oRes_ok zz
        cases e1
        rw [zz] at pp
        intro p Fo o fs
        have eF : Fo = [p] := by cases o with
          | own t => exact absurd rfl (fl _)
          | _ => rfl
        subst eF
        have f1 := fs p (List.mem_singleton_self _)
        exact pp Hf' H' σ R' S' rfl p (h0 p f1.1) f1.2.1 ⟨o, fl⟩ f1.2.2
  · rw [z] at pp
    exact pp Hf' H' σ dx R' S' pay
variable {dvs : List V} {dds : List Dat} {ds : List Value}
theorem de_call (G : FnOk X.prog X.w X.K X.mg X.base (L2N.CX X.prog X.w) k f fd ps (spD X.K n F)) (hr : Room k X.A) (hg : Gl X x) (hm : X.mg x = some (.ref f)) (hk : PySem.W.keepIn X.K (.ref f) = true) (hb : Binds X.K fd ps ds) (hd : Vals dvs ds) (hdd : ∀ Hf, Reps X.K Hf dds dvs)
    (tk : L2N.Takes X W) (ha : DA X W np (e :: es) ms) (hdb : (x == ("__debug__" : Str)) = false := by decide) (he : starEach (e :: es) X.env = (false, eval e X.env) :: starEach es X.env := by rfl) (hpl : (backTo pos (starEach es X.env)).any (·.1) = false := by rfl) :
    DE X W np (.Call (.Name x p) (e :: es) [] pos) (bnd ms fun its => bnd (callF n F (its ++ dds.map .va)) fun r => lft (dRes r)) := by
  refine PE.wk (pe_lk (pe_callSD (E := WE W) G hr hg hm hk hb hd (L2N.passAt tk) ha hdb he hpl)) fun σ H Q ⟨Hf, η, R, p⟩ => ⟨Hf, η, R, p.bnd fun its Hf1 H1 η1 σ1 R1 S1 p1 e1 vs rvs => ?_⟩
  subst e1
  exact rd_call R1 (rvs.app (hdd Hf1)) p1
theorem do_call (G : FnOk X.prog X.w X.K X.mg X.base (L2N.CX X.prog X.w) k f fd ps (spD X.K n F)) (hr : Room k X.A) (hg : Gl X x) (hm : X.mg x = some (.ref f)) (hk : PySem.W.keepIn X.K (.ref f) = true) (hb : Binds X.K fd ps ds) (hd : Vals dvs ds) (hdd : ∀ Hf, Reps X.K Hf dds dvs)
    (tk : L2N.Takes X W) (ha : DA X W np (e :: es) ms) (hdb : (x == ("__debug__" : Str)) = false := by decide) (he : starEach (e :: es) X.env = (false, eval e X.env) :: starEach es X.env := by rfl) (hpl : (backTo pos (starEach es X.env)).any (·.1) = false := by rfl) :
    DO X W np (.Call (.Name x p) (e :: es) [] pos) (bnd ms fun its => bnd (callF n F (its ++ dds.map .va)) fun r => lft (oRes r)) := by
  refine PE.wk (pe_callSD (E := WE W) G hr hg hm hk hb hd (L2N.passAt tk) ha hdb he hpl) fun σ H Q ⟨Hf, η, R, p⟩ => ⟨Hf, η, R, p.bnd fun its Hf1 H1 η1 σ1 R1 S1 p1 e1 vs rvs => ?_⟩
  subst e1
  exact rd_callO R1 (rvs.app (hdd Hf1)) (fun _ z => z.from S1) p1
end

/-! ### a def by its body -/
noncomputable def bk : List Sl → List Sl → Option (List Sl)
  | [], _ => some []
  | .ow _ :: as, .ow d :: η => (bk as η).map (.ow d :: ·)
  | .fr d :: as, _ :: η => (bk as η).map (.fr d :: ·)
  | .no :: as, _ :: η => (bk as η).map (.no :: ·)
  | _, _ => none
noncomputable def mkF (n : Nat) (body : M Out) : M Sl := fun as => match body (as ++ List.replicate (n - as.length) .no) with
  | .ok .nx η => match bk as η with
    | some as' => .ok (.fr .non) as'
    | none => .bad
  | .ok (.rt d) η => match bk as η with
    | some as' => .ok (.fr d) as'
    | none => .bad
  | .ok (.ro d) η => match bk as η with
    | some as' => .ok (.ow d) as'
    | none => .bad
  | .ok _ _ => .bad
  | .rs x η => match bk as η with
    | some as' => .rs x as'
    | none => .bad
  | .bad => .bad
theorem bk_len : ∀ {as η as' : List Sl}, bk as η = some as' → as'.length = as.length
  | [], _, _, h => by cases h; rfl
  | .ow _ :: as, .ow d :: η, _, h => by
    unfold bk at h
    cases e : bk as η with
    | none => rw [e] at h; cases h
    | some l => rw [e] at h; cases h; exact congrArg (· + 1) (bk_len e)
  | .fr _ :: as, _ :: η, _, h => by
    unfold bk at h
    cases e : bk as η with
    | none => rw [e] at h; cases h
    | some l => rw [e] at h; cases h; exact congrArg (· + 1) (bk_len e)
  | .no :: as, _ :: η, _, h => by
    unfold bk at h
    cases e : bk as η with
    | none => rw [e] at h; cases h
    | some l => rw [e] at h; cases h; exact congrArg (· + 1) (bk_len e)
  | .ow _ :: _, [], _, h => by cases h
  | .ow _ :: _, .fr _ :: _, _, h => by cases h
  | .ow _ :: _, .no :: _, _, h => by cases h
  | .fr _ :: _, [], _, h => by cases h
  | .no :: _, [], _, h => by cases h
theorem bk_get : ∀ {as η as' : List Sl} {i : Nat} {s : Sl}, bk as η = some as' → as'[i]? = some s → (∃ d0 d, as[i]? = some (.ow d0) ∧ s = .ow d ∧ η[i]? = some (.ow d)) ∨ (as[i]? = some s ∧ ∀ d, s ≠ .ow d)
  | [], _, _, i, s, h, q => by cases h; simp at q
  | .ow d0 :: as, .ow d :: η, _, i, s, h, q => by
    unfold bk at h
    cases e : bk as η with
    | none => rw [e] at h; cases h
    | some l =>
      rw [e] at h; cases h
      cases i with
      | zero => simp at q; exact .inl ⟨d0, d, rfl, q.symm, rfl⟩
      | succ i => simpa using bk_get (i := i) e (by simpa using q)
  | .fr d0 :: as, _ :: η, _, i, s, h, q => by
    unfold bk at h
    cases e : bk as η with
    | none => rw [e] at h; cases h
    | some l =>
      rw [e] at h; cases h
      cases i with
      | zero => simp at q; subst q; exact .inr ⟨rfl, fun d z => by cases z⟩
      | succ i => simpa using bk_get (i := i) e (by simpa using q)
  | .no :: as, _ :: η, _, i, s, h, q => by
    unfold bk at h
    cases e : bk as η with
    | none => rw [e] at h; cases h
    | some l =>
      rw [e] at h; cases h
      cases i with
      | zero => simp at q; subst q; exact .inr ⟨rfl, fun d z => by cases z⟩
      | succ i => simpa using bk_get (i := i) e (by simpa using q)
  | .ow _ :: _, [], _, _, _, h, _ => by cases h
  | .ow _ :: _, .fr _ :: _, _, _, _, h, _ => by cases h
  | .ow _ :: _, .no :: _, _, _, _, h, _ => by cases h
  | .fr _ :: _, [], _, _, _, h, _ => by cases h
  | .no :: _, [], _, _, _, h, _ => by cases h
section
variable {K : PySem.W.Frag} {np n : Nat} {Hf H Hf' H' : Hp} {as as' η' : En} {vs : List V} {σ' : St} {N : List Str}
theorem app_no {i : Nat} {s : Sl} (h : (as ++ List.replicate n Sl.no)[i]? = some s) : as[i]? = some s ∨ s = .no := by
  by_cases hi : i < as.length
  · rw [List.getElem?_append_left hi] at h; exact .inl h
  · rw [List.getElem?_append_right (by omega), List.getElem?_replicate] at h
    split at h
    · cases h; exact .inr rfl
    · cases h
theorem start_get {i : Nat} {v : V} (h : (start N vs)[i]? = some (some v)) : (vs.map some)[i]? = some (some v) := by
  unfold L2.start at h
  by_cases hi : i < (vs.map some).length
  · rwa [List.getElem?_append_left hi] at h
  · rw [List.getElem?_append_right (by omega), List.getElem?_replicate] at h
    split at h <;> cases h
theorem get_start {i : Nat} {v : V} (h : (vs.map some)[i]? = some (some v)) : (start N vs)[i]? = some (some v) := by
  unfold L2.start
  rw [List.getElem?_append_left (List.getElem?_eq_some_iff.mp h).1]; exact h
theorem Rl.start (R : Rl K Hf H as (vs.map some)) (hn : vs.length ≤ N.length) : Rl K Hf H (as ++ List.replicate (N.length - as.length) .no) (L2.start N vs) where
  ex := R.ex
  len := by
    have e := R.len
    rw [List.length_map] at e
    unfold L2.start
    simp only [List.length_append, List.length_replicate, List.length_map]; omega
  fr := fun i d h => by
    rcases app_no h with h | h
    · obtain ⟨v, q1, q2⟩ := R.fr i d h
      exact ⟨v, get_start q1, q2⟩
    · cases h
  ow := fun i d h => by
    rcases app_no h with h | h
    · obtain ⟨v, F, q1, q2⟩ := R.ow i d h
      exact ⟨v, F, get_start q1, q2⟩
    · cases h
  ap := fun i j d e a b F G c h1 h2 h3 h4 => by
    rcases app_no h1 with h1 | h1
    · rcases app_no h2 with h2 | h2
      · exact R.ap i j d e a b F G c h1 h2 (start_get h3) (start_get h4)
      · cases h2
    · cases h1
theorem own_start {Hf H : Hp} {b : Addr} : Own K Hf H (as ++ List.replicate n Sl.no) (start N vs) b ↔ Own K Hf H as (vs.map some) b := by
  constructor
  · rintro ⟨i, d, a, F, h1, h2, h3⟩
    rcases app_no h1 with h1 | h1
    · exact ⟨i, d, a, F, h1, start_get h2, h3⟩
    · cases h1
  · rintro ⟨i, d, a, F, h1, h2, h3⟩
    exact ⟨i, d, a, F, by rw [List.getElem?_append_left (List.getElem?_eq_some_iff.mp h1).1]; exact h1, get_start h2, h3⟩
/-- at the def's end: what the caller sees -/
theorem Rl.leave (R : Rl K Hf H as (vs.map some)) (hv : vs.length = np) (R' : Rl K Hf' H' η' σ') (S' : Stp K np Hf H (as ++ List.replicate (N.length - as.length) .no) (L2.start N vs) Hf' H' η' σ') (hb : bk as η' = some as') :
    Rl K Hf' H' as' (vs.map some) ∧ Stp K np Hf H as (vs.map some) Hf' H' as' (vs.map some) := by
  have hl : as.length = np := by rw [R.len, List.length_map]; exact hv
  have sig : ∀ (i : Nat) d, as'[i]? = some (.ow d) → (∃ d0, as[i]? = some (.ow d0)) ∧ η'[i]? = some (.ow d) ∧ ∃ a, σ'[i]? = some (some (.ref a)) ∧ (vs.map some)[i]? = some (some (.ref a)) := fun i d h => by
    rcases bk_get hb h with ⟨d0, d1, h1, h2, h3⟩ | ⟨h1, h2⟩
    · cases h2
      have hi : i < np := by rw [← hl]; exact (List.getElem?_eq_some_iff.mp h1).1
      obtain ⟨_, e⟩ := S'.pr i d hi h3
      obtain ⟨a, _, q1, _⟩ := R'.ow i d h3
      rw [q1] at e
      exact ⟨⟨d0, h1⟩, h3, a, q1, start_get e.symm⟩
    · exact absurd rfl (h2 d)
  refine ⟨⟨R'.ex, by rw [bk_len hb]; exact R.len, fun i d h => ?_, fun i d h => ?_, fun i j d e a b F G c h1 h2 h3 h4 h5 h6 h7 h8 => ?_⟩, ⟨S'.ef, fun b o h n => S'.fr b o h fun z => n (own_start.mp z), S'.nn, fun b h => ?_, fun b o h => ?_, fun i d hi h => ⟨(sig i d h).1, rfl⟩⟩⟩
  · rcases bk_get hb h with ⟨d0, d1, h1, h2, h3⟩ | ⟨h1, h2⟩
    · cases h2
    · obtain ⟨v, q1, q2⟩ := R.fr i d h1
      exact ⟨v, q1, q2.mono S'.ef⟩
  · obtain ⟨_, h1, a, h2, h3⟩ := sig i d h
    obtain ⟨a', F, q1, q2⟩ := R'.ow i d h1
    rw [h2] at q1; cases q1
    exact ⟨a, F, h3, q2⟩
  · obtain ⟨_, g1, a1, g2, g3⟩ := sig i d h1
    obtain ⟨_, g4, a2, g5, g6⟩ := sig j e h2
    rw [h3] at g3; cases g3
    rw [h4] at g6; cases g6
    exact R'.ap i j d e a b F G c g1 g4 g2 g5 h5 h6 h7 h8
  · obtain ⟨i, d, a, F, h1, h2, h3, h4⟩ := h
    obtain ⟨_, g1, a1, g2, g3⟩ := sig i d h1
    rw [h2] at g3; cases g3
    exact (S'.ow b ⟨i, d, a, F, g1, g2, h3, h4⟩).imp own_start.mp id
  · rcases S'.nf b o h with y | y | y
    · exact .inl y
    · exact .inr (.inl y)
    · exact .inr (.inr (own_start.mp y))
end
section
variable {P : Program} {w : World} {K : PySem.W.Frag} {mg : Str → Option Value} {base : Heap}
/-- the body's end, from the promise -/
theorem leave_body {N ps : List Str} {vs : List V} {H Hf : Hp} {as : En} {Q : VK} {E : XK} {body : M Out} (hv : vs.length = ps.length) (R : Rl K Hf H as (vs.map some))
    (p : Pst K ps.length (fun cls d σ' H => σ' = vs.map some → E cls d H) Hf H as (vs.map some) (fun r Hf' H' as' σ' => σ' = vs.map some → resS K Hf H as (vs.map some) Q r Hf' H' as' σ') (mkF N.length body as)) :
    Pst K ps.length (fun cls d _ H => E cls d H) Hf H (as ++ List.replicate (N.length - as.length) Sl.no) (L2.start N vs) (endS K Hf H (as ++ List.replicate (N.length - as.length) Sl.no) (L2.start N vs) { nx := fun _ H' => Q .non H', rt := Q }) (body (as ++ List.replicate (N.length - as.length) Sl.no)) := by
  unfold mkF at p
  cases z : body (as ++ List.replicate (N.length - as.length) .no) with
  | ok o η' =>
    rw [z] at p
    cases y : bk as η' with
    | none => cases o <;> (first | exact False.elim p | (simp only [y] at p; exact False.elim p))
    | some as' =>
      cases o with
      | nx =>
        simp only [y] at p
        intro Hf' H' σ' R' S'
        obtain ⟨r1, s1⟩ := R.leave hv R' S' y
        exact p Hf' H' _ r1 s1 rfl _ .non
      | rt d =>
        simp only [y] at p
        intro Hf' H' σ' R' S' v rv
        obtain ⟨r1, s1⟩ := R.leave hv R' S' y
        exact p Hf' H' _ r1 s1 rfl v rv
      | ro d =>
        simp only [y] at p
        intro Hf' H' σ' R' S' pa F o fs
        obtain ⟨r1, s1⟩ := R.leave hv R' S' y
        have sub : ∀ b, Own K Hf' H' as' (vs.map some) b → Own K Hf' H' η' σ' b := fun b ⟨i, dd, a, G, g1, g2, g3, g4⟩ => by
          rcases bk_get y g1 with ⟨d0, d1, w1, w2, w3⟩ | ⟨w1, w2⟩
          · cases w2
            have hi : i < ps.length := by
              have := (List.getElem?_eq_some_iff.mp w1).1
              have e := R.len
              rw [List.length_map] at e
              omega
            obtain ⟨_, e⟩ := S'.pr i dd hi w3
            exact ⟨i, dd, a, G, w3, by rw [e]; exact get_start g2, g3, g4⟩
          · exact absurd rfl (w2 dd)
        exact p Hf' H' _ r1 s1 rfl pa F o fun b hb => ⟨(fs b hb).1.imp id own_start.mp, (fs b hb).2.1, fun z => (fs b hb).2.2 (sub b z)⟩
      | bk => exact False.elim p
      | ct => exact False.elim p
  | rs xx η' =>
    rw [z] at p
    cases y : bk as η' with
    | none => simp only [y] at p; exact False.elim p
    | some as' =>
      simp only [y] at p
      intro Hf' H' σ' dx R' S' pay
      obtain ⟨r1, s1⟩ := R.leave hv R' S' y
      exact p Hf' H' _ dx r1 s1 pay rfl
  | bad => rw [z] at p; exact p
end
end D

namespace D
open PySem L2

section
variable {X : Cx} {W : WX} {np : Nat} {a b c e o : Expr} {es : List Expr} {pos apos pos' p2 : Pos} {ma mb mc : M Dat} {ms : M (List Ai)} {mt mu : M Bool}

/-! ### displays -/
noncomputable def vals : List Ai → Option (List Dat)
  | [] => some []
  | .va d :: l => (vals l).map (d :: ·)
  | .io _ :: _ => none
theorem vals_ok {K : PySem.W.Frag} {Hf : Hp} {σ : St} : ∀ {its : List Ai} {vs : List V} {l : List Dat}, Ais K Hf σ its vs → vals its = some l → Reps K Hf l vs
  | _, _, _, .nil, h => by cases h; exact .nil
  | .va d :: r, _, l, .va h1 A, h => by
    unfold vals at h
    cases e : vals r with
    | none => rw [e] at h; cases h
    | some l' => rw [e] at h; cases h; exact .cons h1 (vals_ok A e)
  | .io _ :: r, _, l, .io _ _, h => by cases h
noncomputable def mkLst (its : List Ai) : Option Dat := (vals its).bind fun l => if fits l.length then some (.lst l) else none
noncomputable def mkTup (its : List Ai) : Option Dat := (vals its).bind fun l => if fits l.length then some (.tup l) else none
theorem do_lst (h : DA X W np es ms) : DO X W np (.List es pos) (bnd ms fun its => lft (mkLst its)) := by
  refine PE.wk (pe_lst h) fun σ H Q ⟨Hf, η, R, p⟩ => ⟨Hf, η, R, p.bnd fun its Hf1 H1 η1 σ1 R1 S1 p1 e1 vs A => ?_⟩
  subst e1
  obtain ⟨d, hd, q⟩ := p1.lft R1
  unfold mkLst at hd
  cases z : vals its with
  | none => rw [z] at hd; cases hd
  | some l =>
    rw [z] at hd
    have hd : (if fits l.length = true then some (Dat.lst l) else none) = some d := hd
    by_cases hf : fits l.length = true
    · rw [if_pos hf] at hd; cases hd
      have r := vals_ok A z
      refine ⟨by rw [← r.length]; exact fits_le hf, fun pa n => ?_⟩
      have o : OwnF X.K Hf1 (upd H1 pa (.lst vs)) pa (.lst l) := ⟨.lst upd_same r, nofun⟩
      obtain ⟨h1, h2, h3⟩ := ownNew R1 n (same_upd n) o
      exact q Hf1 _ h1 rfl pa (.inl (S1.nn pa n)) h2 o h3
    · rw [if_neg hf] at hd; cases hd
theorem de_tup {j : Nat} (h : DA X W np es ms) : DE X W np (.Tuple es j pos) (bnd ms fun its => lft (mkTup its)) := by
  refine PE.wk (pe_tup h) fun σ H Q ⟨Hf, η, R, p⟩ => ⟨Hf, η, R, p.bnd fun its Hf1 H1 η1 σ1 R1 S1 p1 e1 vs A => ?_⟩
  subst e1
  obtain ⟨d, hd, q⟩ := p1.lft R1
  unfold mkTup at hd
  cases z : vals its with
  | none => rw [z] at hd; cases hd
  | some l =>
    rw [z] at hd
    have hd : (if fits l.length = true then some (Dat.tup l) else none) = some d := hd
    by_cases hf : fits l.length = true
    · rw [if_pos hf] at hd; cases hd
      have r := vals_ok A z
      refine ⟨by rw [← r.length]; exact fits_le hf, fun pa n => ?_⟩
      have ex := Ext.new (u := .tup vs) R1.ex n
      exact q _ _ ex rfl _ (.tup (.inl upd_same) (r.mono ex.ef))
    · rw [if_neg hf] at hd; cases hd

/-! ### slices -/
noncomputable def rdPo (K : PySem.W.Frag) (np : Nat) (W : WX) (m : M (Option Int)) : TO := fun σ H Q => ∃ Hf η, Rl K Hf H η σ ∧ Pst K np W Hf H η σ (fun o _ H' _ σ' => σ' = σ → Q o H') (m η)
noncomputable abbrev DPo (X : Cx) (W : WX) (np : Nat) (e : Option Expr) (m : M (Option Int)) : Prop := PO X e (rdPo X.K np W m)
theorem PO.wk {X : Cx} {e : Option Expr} {t t' : TO} (h : PO X e t) (w : ∀ σ H Q, t' σ H Q → t σ H Q) : PO X e t' := ⟨fun pins s σ H Q I q => h.run pins s σ H Q I (w σ H Q q)⟩
noncomputable def dInt : Dat → Option Int
  | .int i => some i
  | _ => none
theorem dpo_none : DPo X W np none (ret none) := PO.wk po_none fun σ H Q ⟨Hf, η, R, p⟩ => p Hf H σ R .refl rfl
theorem dpo_some (h : DE X W np e ma) : DPo X W np (some e) (bnd ma fun d => bnd (lft (dInt d)) fun i => ret (some i)) := by
  refine PO.wk (po_some h) fun σ H Q ⟨Hf, η, R, p⟩ => ⟨Hf, η, R, p.bnd fun d Hf1 H1 η1 σ1 R1 S1 p1 e1 v rv => ?_⟩
  subst e1
  obtain ⟨i, hi, p2⟩ := p1.bndL
  cases d <;> first | (cases hi; done) | skip
  cases hi; cases rv
  exact ⟨_, rfl, p2.ret R1 rfl⟩
noncomputable def dCutS (d : Dat) (lo hi : Option Int) : Option Dat := match d with
  | .str z => if fits z.length then some (.str (cutS z lo hi)) else none
  | _ => none
variable {lo hi : Option Expr} {ml mh : M (Option Int)}
theorem de_slS (he : DE X W np e ma) (hl : DPo X W np lo ml) (hh : DPo X W np hi mh) : DE X W np (.Subscript e (.Slice lo hi none p2) pos) (bnd ma fun d => bnd ml fun l => bnd mh fun h => lft (dCutS d l h)) := by
  refine PE.wk (pe_slice sl_str he hl hh) fun σ H Q ⟨Hf, η, R, p⟩ => ⟨Hf, η, R, p.bnd fun d Hf1 H1 η1 σ1 R1 S1 p1 e1 v rv => ?_⟩
  subst e1
  refine ⟨Hf1, η1, R1, p1.bnd fun l Hf2 H2 η2 σ2 R2 S2 p2 e2 => ?_⟩
  subst e2
  refine ⟨Hf2, η2, R2, p2.bnd fun u Hf3 H3 η3 σ3 R3 S3 p3 e3 => ?_⟩
  subst e3
  obtain ⟨z, hz, q⟩ := p3.lft R3
  unfold dCutS at hz
  split at hz
  · rename_i s
    split at hz
    · rename_i hf; cases hz; cases rv
      exact ⟨s, rfl, fits_le hf, q Hf3 H3 (.refl R3.ex) rfl _ .str⟩
    · cases hz
  · cases hz
noncomputable def cutD (xs : List Dat) (lo hi : Option Int) : List Dat := (xs.drop (HT.sIx xs.length 0 lo)).take (HT.sIx xs.length xs.length hi - HT.sIx xs.length 0 lo)
noncomputable def dCutL (d : Dat) (lo hi : Option Int) : Option Dat := match d with
  | .lst l => some (.lst (cutD l lo hi))
  | .scr l => some (.lst (cutD l lo hi))
  | _ => none
theorem Reps.drop {K : PySem.W.Frag} {H : Hp} : ∀ {l : List Dat} {xs : List V} (n : Nat), Reps K H l xs → Reps K H (l.drop n) (xs.drop n)
  | _, _, 0, r => r
  | _, _, _ + 1, .nil => .nil
  | _, _, n + 1, .cons _ r => r.drop n
theorem Reps.take {K : PySem.W.Frag} {H : Hp} : ∀ {l : List Dat} {xs : List V} (n : Nat), Reps K H l xs → Reps K H (l.take n) (xs.take n)
  | _, _, 0, _ => .nil
  | _, _, _ + 1, .nil => .nil
  | _, _, n + 1, .cons h r => .cons h (r.take n)
theorem cut_ok {K : PySem.W.Frag} {H : Hp} {l : List Dat} {xs : List V} (r : Reps K H l xs) (lo hi : Option Int) : Reps K H (cutD l lo hi) (cutV xs lo hi) := by
  unfold cutD cutV
  rw [r.length]
  exact (r.drop _).take _
theorem do_slL (he : DE X W np e ma) (hl : DPo X W np lo ml) (hh : DPo X W np hi mh) : DO X W np (.Subscript e (.Slice lo hi none p2) pos) (bnd ma fun d => bnd ml fun l => bnd mh fun h => lft (dCutL d l h)) := by
  refine PE.wk (pe_slice sl_list he hl hh) fun σ H Q ⟨Hf, η, R, p⟩ => ⟨Hf, η, R, p.bnd fun d Hf1 H1 η1 σ1 R1 S1 p1 e1 v rv => ?_⟩
  subst e1
  refine ⟨Hf1, η1, R1, p1.bnd fun l Hf2 H2 η2 σ2 R2 S2 p2 e2 => ?_⟩
  subst e2
  refine ⟨Hf2, η2, R2, p2.bnd fun u Hf3 H3 η3 σ3 R3 S3 p3 e3 => ?_⟩
  subst e3
  obtain ⟨z, hz, q⟩ := p3.lft R3
  have rv3 := (rv.mono S2.ef).mono S3.ef
  have go : ∀ aa xs l', SqL X.K H3 aa xs → Reps X.K Hf3 l' xs → z = .lst (cutD l' l u) → rSlL X.K (.ref aa) l u H3 Q := fun aa xs l' h1 h2 h3 => by
    subst h3
    refine ⟨aa, xs, rfl, h1, fun pa n => ?_⟩
    have o : OwnF X.K Hf3 (upd H3 pa (.lst (cutV xs l u))) pa (.lst (cutD l' l u)) := ⟨.lst upd_same (cut_ok h2 l u), nofun⟩
    obtain ⟨g1, g2, g3⟩ := ownNew R3 n (same_upd n) o
    exact q Hf3 _ g1 rfl pa (.inl (S1.nn pa (S2.nn pa (S3.nn pa n)))) g2 o g3
  unfold dCutL at hz
  split at hz
  · cases hz
    cases rv3 with | lst h1 h2 => exact go _ _ _ (SqL.of (R3.ex _ _ h1)) h2 rfl
  · cases hz
    cases rv3 with | scr h1 h2 => exact go _ _ _ (R3.ex.seq h1) h2 rfl
  · cases hz

/-! ### statements -/
noncomputable def sSet (i : Nat) (d : Dat) : M Out := fun η => .ok .nx (η.set i (.fr d))
noncomputable def sSetO (np i : Nat) (d : Dat) : M Out := fun η => if i < np then .bad else .ok .nx (η.set i (.ow d))
section
variable {K : PySem.W.Frag} {Hf H : Hp} {η : En} {σ : St}
theorem set_val {i j : Nat} {v : V} (hl : i < σ.length) : (σ.set i (some v))[j]? = if j = i then some (some v) else σ[j]? := by
  by_cases e : j = i
  · subst e; rw [if_pos rfl, List.getElem?_set_self hl]
  · rw [if_neg e, List.getElem?_set_ne (Ne.symm e)]
theorem Rl.setF {i : Nat} {d : Dat} {v : V} (R : Rl K Hf H η σ) (r : Rep K Hf d v) : Rl K Hf H (η.set i (.fr d)) (σ.set i (some v)) ∧ Stp K np Hf H η σ Hf H (η.set i (.fr d)) (σ.set i (some v)) := by
  have oth : ∀ (j : Nat) s, (∀ d, s ≠ Sl.fr d) → (η.set i (.fr d))[j]? = some s → j ≠ i ∧ η[j]? = some s := fun j s hs h => by
    rcases set_get h with ⟨_, h⟩ | h
    · exact absurd h (hs d)
    · exact h
  have sg : ∀ j : Nat, j ≠ i → (σ.set i (some v))[j]? = σ[j]? := fun j h => List.getElem?_set_ne (Ne.symm h)
  refine ⟨⟨R.ex, by rw [List.length_set, List.length_set]; exact R.len, fun j d' h => ?_, fun j d' h => ?_, fun j k d' e' a b F G c h1 h2 h3 h4 => ?_⟩, ⟨.refl _, fun _ _ h _ => h, fun _ h => h, fun b h => ?_, fun _ _ h => .inl h, fun j d' hj h => ?_⟩⟩
  · rcases set_get h with ⟨e, h'⟩ | ⟨ne, h'⟩
    · cases h'
      have hi : i < η.length := by
        have := (List.getElem?_eq_some_iff.mp h).1
        rw [List.length_set] at this; omega
      exact ⟨v, by rw [e, List.getElem?_set_self (by rw [← R.len]; exact hi)], r⟩
    · obtain ⟨w, q1, q2⟩ := R.fr j d' h'
      exact ⟨w, by rw [sg j ne]; exact q1, q2⟩
  · obtain ⟨ne, h'⟩ := oth j _ (fun _ z => by cases z) h
    obtain ⟨w, F, q1, q2⟩ := R.ow j d' h'
    exact ⟨w, F, by rw [sg j ne]; exact q1, q2⟩
  · obtain ⟨n1, g1⟩ := oth j _ (fun _ z => by cases z) h1
    obtain ⟨n2, g2⟩ := oth k _ (fun _ z => by cases z) h2
    rw [sg j n1] at h3; rw [sg k n2] at h4
    exact R.ap j k d' e' a b F G c g1 g2 h3 h4
  · obtain ⟨j, d', a, F, h1, h2, h3⟩ := h
    obtain ⟨n1, g1⟩ := oth j _ (fun _ z => by cases z) h1
    rw [sg j n1] at h2
    exact .inl ⟨j, d', a, F, g1, h2, h3⟩
  · obtain ⟨n1, g1⟩ := oth j _ (fun _ z => by cases z) h
    exact ⟨⟨d', g1⟩, sg j n1⟩
theorem Rl.setO {i : Nat} {d : Dat} {pa : Addr} {Fo : List Addr} (R : Rl K Hf H η σ) (hi : ¬ i < np) (o : OwnAt K Hf H Fo pa d) (n2 : ∀ b ∈ Fo, Hf b = none) (no : ∀ b ∈ Fo, ¬ Own K Hf H η σ b) :
    Rl K Hf H (η.set i (.ow d)) (σ.set i (some (.ref pa))) ∧ ∀ {Hf0 H0 : Hp} {η0 : En} {σ0 : St}, (∀ b ∈ Fo, Nw K Hf0 H0 η0 σ0 b) → Stp K np Hf0 H0 η0 σ0 Hf H η σ → Stp K np Hf0 H0 η0 σ0 Hf H (η.set i (.ow d)) (σ.set i (some (.ref pa))) := by
  have sg : ∀ j : Nat, j ≠ i → (σ.set i (some (V.ref pa)))[j]? = σ[j]? := fun j h => List.getElem?_set_ne (Ne.symm h)
  have sl : ∀ (j : Nat) d', (η.set i (.ow d))[j]? = some (.ow d') → (j = i ∧ d' = d ∧ i < σ.length) ∨ (j ≠ i ∧ η[j]? = some (.ow d')) := fun j d' h => by
    rcases set_get h with ⟨e, h'⟩ | h'
    · cases h'
      have := (List.getElem?_eq_some_iff.mp h).1
      rw [List.length_set] at this
      exact .inl ⟨e, rfl, by rw [← R.len, ← e]; exact this⟩
    · exact .inr h'
  -- a slot: the new thing, or as it was
  have wh : ∀ (j : Nat) d' a F, (η.set i (.ow d))[j]? = some (.ow d') → (σ.set i (some (V.ref pa)))[j]? = some (some (.ref a)) → OwnAt K Hf H F a d' → (j = i ∧ F = Fo) ∨ (j ≠ i ∧ η[j]? = some (.ow d') ∧ σ[j]? = some (some (.ref a))) := fun j d' a F h1 h2 h3 => by
    rcases sl j d' h1 with ⟨e1, e2, hl⟩ | ⟨n1, g1⟩
    · rw [e1, List.getElem?_set_self hl] at h2
      cases h2
      rw [e2] at h3
      exact .inl ⟨e1, h3.uniq o⟩
    · rw [sg j n1] at h2
      exact .inr ⟨n1, g1, h2⟩
  refine ⟨⟨R.ex, by rw [List.length_set, List.length_set]; exact R.len, fun j d' h => ?_, fun j d' h => ?_, fun j k d' e' a b F G c h1 h2 h3 h4 h5 h6 h7 h8 => ?_⟩, fun {Hf0 H0 η0 σ0} n0 S => ⟨S.ef, S.fr, S.nn, fun b h => ?_, S.nf, fun j d' hj h => ?_⟩⟩
  · rcases set_get h with ⟨e, h'⟩ | ⟨ne, h'⟩
    · cases h'
    · obtain ⟨w, q1, q2⟩ := R.fr j d' h'
      exact ⟨w, by rw [sg j ne]; exact q1, q2⟩
  · rcases sl j d' h with ⟨rfl, rfl, hl⟩ | ⟨ne, h'⟩
    · exact ⟨pa, Fo, List.getElem?_set_self hl, o, n2⟩
    · obtain ⟨w, F, q1, q2⟩ := R.ow j d' h'
      exact ⟨w, F, by rw [sg j ne]; exact q1, q2⟩
  · rcases wh j d' a F h1 h3 h5 with ⟨e1, f1⟩ | ⟨n1, g1, g2⟩
    · rcases wh k e' b G h2 h4 h6 with ⟨e2, f2⟩ | ⟨n2', w1, w2⟩
      · rw [e1, e2]
      · exact absurd ⟨k, e', b, G, w1, w2, h6, h8⟩ (no c (f1 ▸ h7))
    · rcases wh k e' b G h2 h4 h6 with ⟨e2, f2⟩ | ⟨n2', w1, w2⟩
      · exact absurd ⟨j, d', a, F, g1, g2, h5, h7⟩ (no c (f2 ▸ h8))
      · exact R.ap j k d' e' a b F G c g1 w1 g2 w2 h5 h6 h7 h8
  · obtain ⟨j, d', a, F, h1, h2, h3, h4⟩ := h
    rcases wh j d' a F h1 h2 h3 with ⟨e1, f1⟩ | ⟨n1, g1, g2⟩
    · exact (n0 b (f1 ▸ h4)).elim .inr .inl
    · exact S.ow b ⟨j, d', a, F, g1, g2, h3, h4⟩
  · rcases sl j d' h with ⟨e1, _, hl⟩ | ⟨n1, g1⟩
    · rw [e1] at hj; exact absurd hj hi
    · obtain ⟨q1, q2⟩ := S.pr j d' hj g1
      exact ⟨q1, by rw [sg j n1]; exact q2⟩
end
theorem Rl.setO1 {K : PySem.W.Frag} {Hf H : Hp} {η : En} {σ : St} {i : Nat} {d : Dat} {pa : Addr} (R : Rl K Hf H η σ) (hi : ¬ i < np) (n2 : Hf pa = none) (o : OwnF K Hf H pa d) (no : ¬ Own K Hf H η σ pa) :
    Rl K Hf H (η.set i (.ow d)) (σ.set i (some (.ref pa))) ∧ ∀ {Hf0 H0 : Hp} {η0 : En} {σ0 : St}, Nw K Hf0 H0 η0 σ0 pa → Stp K np Hf0 H0 η0 σ0 Hf H η σ → Stp K np Hf0 H0 η0 σ0 Hf H (η.set i (.ow d)) (σ.set i (some (.ref pa))) := by
  obtain ⟨r2, s2⟩ := Rl.setO (np := np) (i := i) R hi o.1 (fun b z => by rw [List.mem_singleton.mp z]; exact n2) (fun b z => by rw [List.mem_singleton.mp z]; exact no)
  exact ⟨r2, fun n1 S => s2 (fun b z => by rw [List.mem_singleton.mp z]; exact n1) S⟩
theorem ds_set {i : Nat} {x : Str} (hs : ∀ {te : TE}, PE X e te → PS X (.Assign [.Name x pos'] e pos) (tAsg te (gName i))) (he : DE X W np e ma) : DS X W np (.Assign [.Name x pos'] e pos) (bnd ma fun d => sSet i d) := by
  refine PS.wk (hs he) fun E σ H ⟨Hf, η, R, p⟩ => ⟨Hf, η, R, p.bnd fun d Hf1 H1 η1 σ1 R1 S1 p1 e1 v rv => ?_⟩
  subst e1
  obtain ⟨r2, s2⟩ := Rl.setF (np := np) (i := i) R1 rv
  exact p1 Hf1 H1 _ r2 s2
theorem ds_setO {i : Nat} {x : Str} (hs : ∀ {te : TE}, PE X e te → PS X (.Assign [.Name x pos'] e pos) (tAsg te (gName i))) (he : DO X W np e ma) : DS X W np (.Assign [.Name x pos'] e pos) (bnd ma fun d => sSetO np i d) := by
  refine PS.wk (hs he) fun E σ H ⟨Hf, η, R, p⟩ => ⟨Hf, η, R, ?_⟩
  unfold bnd at p
  cases z : ma η with
  | ok d η' =>
    rw [z] at p
    intro Hf1 H1 σ1 R1 S1 e1 pa n1 n2 o no
    subst e1
    unfold sSetO at p
    by_cases hi : i < np
    · simp only [hi, if_true] at p; exact False.elim p
    · simp only [hi, if_false] at p
      obtain ⟨r2, s2⟩ := Rl.setO (np := np) (i := i) R1 hi o.1 (fun b z => by rw [List.mem_singleton.mp z]; exact n2) (fun b z => by rw [List.mem_singleton.mp z]; exact no)
      exact p Hf1 H1 _ r2 (s2 (fun b z => by rw [List.mem_singleton.mp z]; exact n1) S1)
  | rs x η' => rw [z] at p; exact p
  | bad => rw [z] at p; exact p
theorem ds_expr (he : DE X W np e ma) (hs : swapsWith e none pos.line X.env = pure false := by rfl) : DS X W np (.Expr e pos) (bnd ma fun _ => ret .nx) := by
  refine PS.wk (ps_expr he hs) fun E σ H ⟨Hf, η, R, p⟩ => ⟨Hf, η, R, p.bnd fun d Hf1 H1 η1 σ1 R1 S1 p1 e1 v rv => ?_⟩
  subst e1
  exact p1.ret R1
theorem ds_ret (he : DE X W np e ma) : DS X W np (.Return (some e) pos) (bnd ma fun d => ret (.rt d)) := by
  refine PS.wk (ps_ret he) fun E σ H ⟨Hf, η, R, p⟩ => ⟨Hf, η, R, p.bnd fun d Hf1 H1 η1 σ1 R1 S1 p1 e1 v rv => ?_⟩
  subst e1
  exact p1.ret R1 v rv
theorem ds_retO (he : DO X W np e ma) : DS X W np (.Return (some e) pos) (bnd ma fun d => ret (.ro d)) := by
  refine PS.wk (ps_ret he) fun E σ H ⟨Hf, η, R, p⟩ => ⟨Hf, η, R, p.bnd fun d Hf1 H1 η1 σ1 R1 S1 p1 e1 pa n1 n2 o no => ?_⟩
  subst e1
  exact p1.ret R1 pa [pa] o.1 (.one n1 n2 no)
theorem ds_retN : DS X W np (.Return none pos) (ret (.rt .non)) :=
  PS.wk ps_retN fun E σ H ⟨Hf, η, R, p⟩ => p.ret R _ .non
noncomputable def sRetV (i : Nat) : M Out := fun η => match η[i]? with
  | some (.fr d) => .ok (.rt d) η
  | some (.ow d) => .ok (.ro d) (η.set i .no)
  | _ => .bad
theorem Rl.drop {K : PySem.W.Frag} {Hf H : Hp} {η : En} {σ : St} (R : Rl K Hf H η σ) (i : Nat) : Rl K Hf H (η.set i .no) σ ∧ Stp K np Hf H η σ Hf H (η.set i .no) σ := by
  have oth : ∀ (j : Nat) s, s ≠ Sl.no → (η.set i .no)[j]? = some s → η[j]? = some s := fun j s hs h => by
    rcases set_get h with ⟨_, h⟩ | h
    · exact absurd h hs
    · exact h.2
  exact ⟨⟨R.ex, by rw [List.length_set]; exact R.len, fun j d h => R.fr j d (oth j _ (fun z => by cases z) h), fun j d h => R.ow j d (oth j _ (fun z => by cases z) h), fun j k d e a b F G c h1 h2 => R.ap j k d e a b F G c (oth j _ (fun z => by cases z) h1) (oth k _ (fun z => by cases z) h2)⟩,
    ⟨.refl _, fun _ _ h _ => h, fun _ h => h, fun b ⟨j, d, a, F, h1, h2⟩ => .inl ⟨j, d, a, F, oth j _ (fun z => by cases z) h1, h2⟩, fun _ _ h => .inl h, fun j d _ h => ⟨⟨d, oth j _ (fun z => by cases z) h⟩, rfl⟩⟩⟩
theorem ds_retV (i : Nat) {x : Str} {px : Pos} (h : PE X (.Name x px) (tVar i)) : DS X W np (.Return (some (.Name x px)) pos) (sRetV i) := by
  refine PS.wk (ps_ret h) fun E σ H ⟨Hf, η, R, p⟩ => ?_
  unfold sRetV at p
  split at p
  · rename_i d hd
    obtain ⟨v, h1, h2⟩ := R.fr i d hd
    exact ⟨v, h1, p Hf H σ R .refl v h2⟩
  · rename_i d hd
    obtain ⟨aa, Fo, h1, h2, h3⟩ := R.ow i d hd
    obtain ⟨r2, s2⟩ := R.drop (np := np) i
    refine ⟨_, h1, p Hf H σ r2 s2 aa Fo h2 fun c hc => ⟨.inr ⟨i, d, aa, Fo, hd, h1, h2, hc⟩, h3 c hc, fun ⟨j, d', b, G, g1, g2, g3, g4⟩ => ?_⟩⟩
    rcases set_get g1 with ⟨_, g⟩ | ⟨ne, g⟩
    · cases g
    · exact ne (R.ap j i d' d b aa G Fo c g hd g2 h1 g3 h2 g4 hc)
  · exact False.elim p
variable {sa sb : List Stmt} {st : Stmt} {m1 m2 : M Out} {rest : List Stmt}
theorem ds_if (ht : DT X W np c mt) (ha : DB X W np sa m1) (hb : DB X W np sb m2) : DS X W np (.If c sa sb pos) (bnd mt fun k => if k then m1 else m2) := by
  refine PS.wk (ps_if ht ha hb) fun E σ H ⟨Hf, η, R, p⟩ => ⟨Hf, η, R, p.bnd fun k Hf1 H1 η1 σ1 R1 S1 p1 e1 => ?_⟩
  subst e1
  have w : ∀ {r : Rs Out}, Pst X.K np W Hf1 H1 η1 σ1 (endS X.K Hf H η σ1 E) r → Pst X.K np W Hf1 H1 η1 σ1 (endS X.K Hf1 H1 η1 σ1 E) r := fun {r} q => by
    cases r with
    | ok o η' => exact fun Hf' H' σ' r s => endS.mono S1 (q Hf' H' σ' r s)
    | rs x η' => exact q
    | bad => exact q
  cases k with
  | true => exact ⟨Hf1, η1, R1, w p1⟩
  | false => exact ⟨Hf1, η1, R1, w p1⟩
theorem db_nil : DB X W np [] (ret .nx) := PSs.wk pss_nil fun E σ H ⟨Hf, η, R, p⟩ => p.ret R
noncomputable def sq (m1 m2 : M Out) : M Out := bnd m1 fun o => match o with
  | .nx => m2
  | o => ret o
theorem Pst.endMono {K : PySem.W.Frag} {Hf H Hf1 H1 Hf2 H2 : Hp} {η η1 η2 : En} {σ σ1 σ2 : St} {E : Ends} {r : Rs Out} (S : Stp K np Hf H η σ Hf1 H1 η1 σ1) (q : Pst K np W Hf2 H2 η2 σ2 (endS K Hf H η σ E) r) : Pst K np W Hf2 H2 η2 σ2 (endS K Hf1 H1 η1 σ1 E) r := by
  cases r with
  | ok o η' => exact fun Hf' H' σ' r s => endS.mono S (q Hf' H' σ' r s)
  | rs x η' => exact q
  | bad => exact q
theorem db_cons (h1 : DS X W np st m1) (h2 : DB X W np rest m2) : DB X W np (st :: rest) (sq m1 m2) := by
  refine PSs.wk (pss_cons h1 h2) fun E σ H ⟨Hf, η, R, p⟩ => ⟨Hf, η, R, Pst.bnd p fun o Hf1 H1 η1 σ1 R1 S1 p1 => ?_⟩
  cases o with
  | nx => exact ⟨Hf1, η1, R1, Pst.endMono S1 p1⟩
  | rt d => exact p1 Hf1 H1 σ1 R1 .refl
  | ro d => exact p1 Hf1 H1 σ1 R1 .refl
  | bk => exact p1 Hf1 H1 σ1 R1 .refl
  | ct => exact p1 Hf1 H1 σ1 R1 .refl
theorem db_one (h1 : DS X W np st m1) : DB X W np [st] m1 := pss_one h1
theorem ds_pass : DS X W np (.Pass pos) (ret .nx) := PS.wk ps_pass fun E σ H ⟨Hf, η, R, p⟩ => p.ret R
theorem ds_brk : DS X W np (.Break pos) (ret .bk) := PS.wk ps_break fun E σ H ⟨Hf, η, R, p⟩ => p.ret R
theorem ds_cont : DS X W np (.Continue pos) (ret .ct) := PS.wk ps_continue fun E σ H ⟨Hf, η, R, p⟩ => p.ret R
/-- what is never reached -/
theorem ds_bad : DS X W np st stk := PS.wk ps_never fun E σ H ⟨Hf, η, R, p⟩ => p
theorem db_bad : DB X W np rest stk := PSs.wk pss_never fun E σ H ⟨Hf, η, R, p⟩ => p
theorem de_bad : DE X W np e stk := ⟨fun pins s σ H Q I ⟨Hf, η, R, p⟩ => False.elim p⟩
theorem dt_bad : DT X W np e stk := ⟨fun pins s σ H Q I ⟨Hf, η, R, p⟩ => False.elim p⟩

/-! ### an owned list changed -/
noncomputable def owSet (i : Nat) (f : Dat → Option Dat) : M Unit := fun η => match η[i]? with
  | some (.ow d) => match f d with
    | some d' => .ok () (η.set i (.ow d'))
    | none => .bad
  | _ => .bad
/-- an owned thing is changed: within what it owned, and what is new -/
theorem Rl.writeT {K : PySem.W.Frag} {Hf H H' : Hp} {η : En} {σ : St} {i : Nat} {d d' : Dat} {aa : Addr} {F F' : List Addr} (R : Rl K Hf H η σ) (h : η[i]? = some (.ow d)) (hs : σ[i]? = some (some (.ref aa))) (o0 : OwnAt K Hf H F aa d)
    (ch : ∀ b, b ∉ F → ∀ u, H b = some u → H' b = some u) (nn : ∀ b, H' b = none → H b = none) (o : OwnAt K Hf H' F' aa d') (nf : ∀ b ∈ F', b ∈ F ∨ (H b = none ∧ Hf b = none)) :
    Rl K Hf H' (η.set i (.ow d')) σ ∧ Stp K np Hf H η σ Hf H' (η.set i (.ow d')) σ := by
  have n0 : ∀ b ∈ F, Hf b = none := fun b hb => by
    obtain ⟨a', G, g1, g2, g3⟩ := R.ow i d h
    rw [hs] at g1; cases g1
    rw [o0.uniq g2] at hb
    exact g3 b hb
  have sx : Same Hf H' := fun b o' q => ch b (fun z => by rw [n0 b z] at q; cases q) _ (R.ex _ _ q)
  have sl : ∀ (j : Nat) e, (η.set i (.ow d'))[j]? = some (.ow e) → (j = i ∧ e = d') ∨ (j ≠ i ∧ η[j]? = some (.ow e)) := fun j e h => by
    rcases set_get h with ⟨e1, h'⟩ | h'
    · cases h'; exact .inl ⟨e1, rfl⟩
    · exact .inr h'
  have dj : ∀ (j : Nat) (e : Dat) (b : Addr) (G : List Addr), j ≠ i → η[j]? = some (.ow e) → σ[j]? = some (some (.ref b)) → OwnAt K Hf H G b e → ∀ c ∈ G, c ∉ F := fun j e b G ne q q1 q2 c g1 g2 => ne (R.ap j i e d b aa G F c q h q1 hs q2 o0 g1 g2)
  have now : ∀ (j : Nat) (e : Dat) (b : Addr) (G : List Addr), j ≠ i → η[j]? = some (.ow e) → σ[j]? = some (some (.ref b)) → OwnAt K Hf H' G b e → OwnAt K Hf H G b e := fun j e b G ne q q1 q2 =>
    R.ownNow (.refl _) sx q q1 q2 fun G' o c hc u hu => ch c (dj j e b G' ne q q1 o c hc) u hu
  have wh : ∀ (j : Nat) e b G, (η.set i (.ow d'))[j]? = some (.ow e) → σ[j]? = some (some (.ref b)) → OwnAt K Hf H' G b e → (j = i ∧ G = F') ∨ (j ≠ i ∧ η[j]? = some (.ow e) ∧ OwnAt K Hf H G b e) := fun j e b G h1 h2 h3 => by
    rcases sl j e h1 with ⟨e1, e2⟩ | ⟨n1, g1⟩
    · subst e1; subst e2
      rw [hs] at h2; cases h2
      exact .inl ⟨rfl, h3.uniq o⟩
    · exact .inr ⟨n1, g1, now j e b G n1 g1 h2 h3⟩
  have cl : ∀ (j : Nat) e b G c, j ≠ i → η[j]? = some (.ow e) → σ[j]? = some (some (.ref b)) → OwnAt K Hf H G b e → c ∈ G → c ∉ F' := fun j e b G c n1 g1 g2 g3 g4 g5 => by
    rcases nf c g5 with z | z
    · exact dj j e b G n1 g1 g2 g3 c g4 z
    · obtain ⟨u, hu⟩ := g3.there c g4
      rw [z.1] at hu; cases hu
  refine ⟨⟨fun b o' q => ?_, by rw [List.length_set]; exact R.len, fun j e q => ?_, fun j e q => ?_, fun j k e f b c G G' x q1 q2 q3 q4 q5 q6 q7 q8 => ?_⟩, ⟨.refl _, fun b o' q n => ?_, nn, fun b ⟨j, e, c, G, q1, q2, q3, q4⟩ => ?_, fun _ _ q => .inl q, fun j e _ q => ⟨?_, rfl⟩⟩⟩
  · exact ch b (fun z => by rw [n0 b z] at q; cases q) _ (R.ex _ _ q)
  · rcases set_get q with ⟨_, q⟩ | ⟨_, q⟩
    · cases q
    · exact R.fr j e q
  · rcases sl j e q with ⟨rfl, rfl⟩ | ⟨ne, q'⟩
    · exact ⟨aa, F', hs, o, fun b hb => (nf b hb).elim (n0 b) (·.2)⟩
    · obtain ⟨b, G, w1, w2, w3⟩ := R.ow j e q'
      exact ⟨b, G, w1, w2.mono (.refl _) sx fun c hc u hu => ch c (dj j e b G ne q' w1 w2 c hc) u hu, w3⟩
  · rcases wh j e b G q1 q3 q5 with ⟨e1, f1⟩ | ⟨n1, g1, g2⟩
    · rcases wh k f c G' q2 q4 q6 with ⟨e2, f2⟩ | ⟨n2, w1, w2⟩
      · rw [e1, e2]
      · exact absurd (f1 ▸ q7) (cl k f c G' x n2 w1 q4 w2 q8)
    · rcases wh k f c G' q2 q4 q6 with ⟨e2, f2⟩ | ⟨n2, w1, w2⟩
      · exact absurd (f2 ▸ q8) (cl j e b G x n1 g1 q3 g2 q7)
      · exact R.ap j k e f b c G G' x g1 w1 q3 q4 g2 w2 q7 q8
  · exact ch b (fun z => n ⟨i, d, aa, F, h, hs, o0, z⟩) _ q
  · rcases wh j e c G q1 q2 q3 with ⟨e1, f1⟩ | ⟨n1, g1, g2⟩
    · rcases nf b (f1 ▸ q4) with z | z
      · exact .inl ⟨i, d, aa, F, h, hs, o0, z⟩
      · exact .inr z.1
    · exact .inl ⟨j, e, c, G, g1, q2, g2, q4⟩
  · rcases sl j e q with ⟨e1, _⟩ | ⟨_, h'⟩
    · rw [e1]; exact ⟨d, h⟩
    · exact ⟨e, h'⟩
theorem Rl.write {K : PySem.W.Frag} {Hf H : Hp} {η : En} {σ : St} {i : Nat} {d d' : Dat} {aa : Addr} {u : HO} (R : Rl K Hf H η σ) (h : η[i]? = some (.ow d)) (hs : σ[i]? = some (some (.ref aa))) (o0 : OwnAt K Hf H [aa] aa d) (o : OwnAt K Hf (upd H aa u) [aa] aa d') :
    Rl K Hf (upd H aa u) (η.set i (.ow d')) σ ∧ Stp K np Hf H η σ Hf (upd H aa u) (η.set i (.ow d')) σ :=
  R.writeT h hs o0 (fun b z w hw => by rw [upd_ne fun y => z (by rw [y]; exact List.mem_singleton_self _)]; exact hw) (fun b z => by
    by_cases y : b = aa
    · rw [y, upd_same] at z; cases z
    · rwa [upd_ne y] at z) o fun b z => .inl z
/-- x[k] = v, x a name that owns a list -/
noncomputable def lSet (k v d : Dat) : Option Dat := match k, d with
  | .int i, .lst l => (ixN l.length i).map fun j => .lst (l.set j v)
  | _, _ => none
theorem lSet_some {k v d d' : Dat} (h : lSet k v d = some d') : ∃ i l j, k = .int i ∧ d = .lst l ∧ ixN l.length i = some j ∧ d' = .lst (l.set j v) := by
  unfold lSet at h
  split at h
  · rename_i i l
    cases e : ixN l.length i with
    | none => rw [e] at h; cases h
    | some j => rw [e] at h; cases h; exact ⟨i, l, j, rfl, rfl, e, rfl⟩
  · cases h
theorem Reps.set {K : PySem.W.Frag} {H : Hp} {d : Dat} {x : V} (h : Rep K H d x) : ∀ {l : List Dat} {xs : List V} (j : Nat), Reps K H l xs → Reps K H (l.set j d) (xs.set j x)
  | _, _, _, .nil => .nil
  | _, _, 0, .cons _ r => .cons h r
  | _, _, j + 1, .cons h' r => .cons h' (r.set h j)
theorem ds_put (i : Nat) {x : Str} {px : Pos} (h : PE X (.Name x px) (tVar i)) (hv : DE X W np e ma) (hk : DE X W np b mb) (hset : PSet X rSetL)
    (hs : ∀ {te : TE} {g : TG}, PE X e te → PG X (.Subscript (.Name x px) b pos') g → PS X (.Assign [.Subscript (.Name x px) b pos'] e pos) (tAsg te g))
    (hsub : ∀ {to ti : TE} {t : TSet}, PE X (.Name x px) to → PE X b ti → PSet X t → PG X (.Subscript (.Name x px) b pos') (gSub to ti t)) :
    DS X W np (.Assign [.Subscript (.Name x px) b pos'] e pos) (bnd ma fun v => bnd (mPeek i) fun _ => bnd mb fun k => bnd (owSet i (lSet k v)) fun _ => ret .nx) := by
  refine PS.wk (hs hv (hsub h hk hset)) fun E σ H ⟨Hf, η, R, p⟩ => ⟨Hf, η, R, p.bnd fun d Hf1 H1 η1 σ1 R1 S1 p1 e1 v rv => ?_⟩
  subst e1
  obtain ⟨_, xv, hx, _, p2⟩ := p1.peek R1
  refine ⟨xv, hx, Hf1, η1, R1, p2.bnd fun k Hf2 H2 η2 σ2 R2 S2 p3 e2 kv rk => ?_⟩
  subst e2
  unfold bnd owSet at p3
  split at p3
  · rename_i u η' hu
    split at hu
    · rename_i dd hd
      obtain ⟨aa, Fo, g1, g3, g2⟩ := R2.ow i dd hd
      rw [hx] at g1; cases g1
      split at hu
      · rename_i d' hd'
        cases hu
        obtain ⟨z, l, j, rfl, rfl, zz, rfl⟩ := lSet_some hd'
        cases g3 with
        | lst k1 k2 =>
          rename_i xs
          cases rk
          refine ⟨aa, xs, z, j, rfl, rfl, k1, by rw [← k2.length]; exact zz, ?_⟩
          obtain ⟨r4, s4⟩ := Rl.write (np := np) (u := .lst (xs.set j v)) R2 hd hx (.lst k1 k2) (.lst upd_same (k2.set (rv.mono S2.ef) j))
          exact p3 Hf2 _ σ2 r4 s4
      · cases hu
    · cases hu
  · rename_i x0 η' hu
    split at hu
    · split at hu <;> cases hu
    · cases hu
  · exact False.elim p3
/-- x.append(v) -/
noncomputable def lApp (v : Dat) : Dat → Option Dat
  | .lst l => if fits l.length then some (.lst (l ++ [v])) else none
  | _ => none
noncomputable def isLst : Dat → Option Unit
  | .lst _ => some ()
  | _ => none
theorem ds_app (i : Nat) {x : Str} {px : Pos} (h : PE X (.Name x px) (tVar i)) (hv : DE X W np e ma)
    (hm : ∀ {te : TE}, PE X e te → PE X (.Call (.Attribute (.Name x px) "append" apos) [e] [] pos') (tBM X.K "list" rAppend (tVar i) (tCons te tNil)))
    (hs : swapsWith (.Call (.Attribute (.Name x px) "append" apos) [e] [] pos') none pos.line X.env = pure false := by rfl) :
    DS X W np (.Expr (.Call (.Attribute (.Name x px) "append" apos) [e] [] pos') pos) (bnd (mPeek i) fun y => bnd (lft (isLst y)) fun _ => bnd ma fun v => bnd (owSet i (lApp v)) fun _ => ret .nx) := by
  refine PS.wk (ps_expr (hm hv) hs) fun E σ H ⟨Hf, η, R, p⟩ => ?_
  obtain ⟨y, xv, hx, ry, p2⟩ := p.peek R
  obtain ⟨_, hy, p4⟩ := p2.bndL
  unfold isLst at hy
  split at hy
  · obtain ⟨a0, xs0, rfl, q1, q2⟩ := ry.lst R.ex
    refine ⟨_, hx, .inl ⟨rfl, xs0, SqL.of q1⟩, Hf, η, R, p4.bnd fun d Hf2 H2 η2 σ2 R2 S2 p3 e2 v rv => ?_⟩
    subst e2
    unfold bnd owSet at p3
    split at p3
    · rename_i u η' hu
      split at hu
      · rename_i dd hd
        obtain ⟨aa, Fo, g1, g3, g2⟩ := R2.ow i dd hd
        rw [hx] at g1; cases g1
        split at hu
        · rename_i d' hd'
          cases hu
          unfold lApp at hd'
          split at hd'
          · split at hd'
            · rename_i l hf
              cases hd'
              cases g3 with
              | lst k1 k2 =>
                rename_i xs
                refine ⟨a0, xs, v, rfl, rfl, k1, by rw [← k2.length]; exact fits_lt hf, ?_⟩
                obtain ⟨r4, s4⟩ := Rl.write (np := np) (u := .lst (xs ++ [v])) R2 hd hx (.lst k1 k2) (.lst upd_same (k2.append (.cons rv .nil)))
                exact p3 Hf2 _ σ2 r4 s4
            · cases hd'
          · cases hd'
        · cases hu
      · cases hu
    · rename_i x0 η' hu
      split at hu
      · split at hu <;> cases hu
      · cases hu
    · exact False.elim p3
  · cases hy

/-! ### targets -/
noncomputable def rdG (K : PySem.W.Frag) (np : Nat) (W : WX) (f : Dat → M Unit) : TG := fun v σ H Q => ∃ Hf η d, Rl K Hf H η σ ∧ Rep K Hf d v ∧ Pst K np W Hf H η σ (fun _ _ H' _ σ' => Q σ' H') (f d η)
noncomputable abbrev DG (X : Cx) (W : WX) (np : Nat) (tg : Expr) (f : Dat → M Unit) : Prop := PG X tg (rdG X.K np W f)
noncomputable def rdGs (K : PySem.W.Frag) (np : Nat) (W : WX) (f : List Dat → M Unit) : TGs := fun vs σ H Q => ∃ Hf η ds, Rl K Hf H η σ ∧ Reps K Hf ds vs ∧ Pst K np W Hf H η σ (fun _ _ H' _ σ' => Q σ' H') (f ds η)
noncomputable abbrev DGs (X : Cx) (W : WX) (np : Nat) (tg : List Expr) (f : List Dat → M Unit) : Prop := PGs X tg (rdGs X.K np W f)
theorem PG.wk {X : Cx} {e : Expr} {t t' : TG} (h : PG X e t) (w : ∀ v σ H Q, t' v σ H Q → t v σ H Q) : PG X e t' := ⟨fun pins s σ H v u Q I r q => h.run pins s σ H v u Q I r (w v σ H Q q)⟩
theorem PGs.wk {X : Cx} {e : List Expr} {t t' : TGs} (h : PGs X e t) (w : ∀ v σ H Q, t' v σ H Q → t v σ H Q) : PGs X e t' := ⟨fun pins s σ H v u Q I r q => h.run pins s σ H v u Q I r (w v σ H Q q)⟩
noncomputable def gSet (i : Nat) (d : Dat) : M Unit := fun η => .ok () (η.set i (.fr d))
theorem dg_name {i : Nat} (h : PG X e (gName i)) : DG X W np e (gSet i) := by
  refine PG.wk h fun v σ H Q ⟨Hf, η, d, R, r, p⟩ => ?_
  obtain ⟨r2, s2⟩ := Rl.setF (np := np) (i := i) R r
  exact p Hf H _ r2 s2
noncomputable def gNil' (l : List Dat) : M Unit := match l with
  | [] => ret ()
  | _ => stk
noncomputable def gCons' (f : Dat → M Unit) (g : List Dat → M Unit) (l : List Dat) : M Unit := match l with
  | d :: ds => bnd (f d) fun _ => g ds
  | [] => stk
variable {fg : Dat → M Unit} {fgs : List Dat → M Unit}
theorem dgs_nil : DGs X W np [] gNil' := by
  refine PGs.wk pgs_nil fun vs σ H Q ⟨Hf, η, ds, R, r, p⟩ => ?_
  cases r with
  | nil => exact ⟨rfl, p Hf H σ R .refl⟩
  | cons _ _ => exact False.elim p
theorem dgs_cons (h1 : DG X W np e fg) (h2 : DGs X W np es fgs) (hs : (assignEach (e :: es) X.env).map (·.2) = assign e X.env :: (assignEach es X.env).map (·.2) := by rfl) : DGs X W np (e :: es) (gCons' fg fgs) := by
  refine PGs.wk (pgs_cons h1 h2 hs) fun vs σ H Q ⟨Hf, η, ds, R, r, p⟩ => ?_
  cases r with
  | nil => exact False.elim p
  | @cons d x l xs h r =>
    refine ⟨x, xs, rfl, Hf, η, d, R, h, Pst.bnd p fun _ Hf1 H1 η1 σ1 R1 S1 p1 => ?_⟩
    exact ⟨Hf1, η1, l, R1, r.mono S1.ef, p1⟩
noncomputable def gTup' (f : List Dat → M Unit) (d : Dat) : M Unit := match d with
  | .tup l => f l
  | _ => stk
theorem dg_tup {k n : Nat} (hc : X.calm = true) (h : DGs X W np es fgs) (hlen : ∀ l η, l.length ≠ n → fgs l η = .bad) (hn : (assignEach es X.env).length = n := by rfl) (hst : (assignEach es X.env).findIdx? (·.1) = none := by rfl) : DG X W np (.Tuple es k pos) (gTup' fgs) := by
  refine PG.wk (pg_tup hc h hn hst) fun v σ H Q ⟨Hf, η, d, R, r, p⟩ => ?_
  have hd : ∃ l, d = .tup l := by
    cases d <;> first | exact False.elim p | skip
    exact ⟨_, rfl⟩
  obtain ⟨l, rfl⟩ := hd
  obtain ⟨aa, xs, rfl, h1, h2⟩ := RepP.tup R.ex (.inl r)
  refine ⟨aa, xs, rfl, h1.sq, ?_, Hf, η, l, R, h2, p⟩
  rw [← h2.length]
  by_cases z : l.length = n
  · exact z
  · have := hlen l η z
    unfold gTup' at p
    simp only [this] at p
    exact False.elim p
/-- t1, t2 = e -/
theorem ds_asg {tg : Expr} (hs : ∀ {te : TE} {g : TG}, PE X e te → PG X tg g → PS X (.Assign [tg] e pos) (tAsg te g)) (he : DE X W np e ma) (hg : DG X W np tg fg) : DS X W np (.Assign [tg] e pos) (bnd ma fun d => bnd (fg d) fun _ => ret .nx) := by
  refine PS.wk (hs he hg) fun E σ H ⟨Hf, η, R, p⟩ => ⟨Hf, η, R, p.bnd fun d Hf1 H1 η1 σ1 R1 S1 p1 e1 v rv => ?_⟩
  subst e1
  exact ⟨Hf1, η1, d, R1, rv, p1.bnd fun _ Hf2 H2 η2 σ2 R2 S2 p2 => p2.ret R2⟩

/-! ### what is walked -/
structure Walk (K : PySem.W.Frag) (Hf : Hp) (items : List Dat) (J : It) : Prop where
  go : ∀ i H, Same Hf H → i < items.length → J.go i H
  stop : ∀ H, Same Hf H → J.stop items.length H
  yld : ∀ i Hf1 H x H', Same Hf Hf1 → Same Hf1 H → i < items.length → J.yld i H x H' → ∃ d Hf2, items[i]? = some d ∧ Ext Hf1 H Hf2 H' ∧ Rep K Hf2 d x
noncomputable def rdI (K : PySem.W.Frag) (np : Nat) (W : WX) (m : M (List Dat)) : TI := fun σ H R => ∃ Hf η, Rl K Hf H η σ ∧ Pst K np W Hf H η σ (fun items Hf' H' _ σ' => σ' = σ → ∀ J, Walk K Hf' items J → R J H') (m η)
noncomputable abbrev DI (X : Cx) (W : WX) (np : Nat) (tg it : Expr) (m : M (List Dat)) : Prop := PI X tg it (rdI X.K np W m)
theorem PI.wk {X : Cx} {tg e : Expr} {t t' : TI} (h : PI X tg e t) (w : ∀ σ H R, t' σ H R → t σ H R) : PI X tg e t' := ⟨fun pins s σ H R I q => h.run pins s σ H R I (w σ H R q)⟩
noncomputable def dItL : Dat → Option (List Dat)
  | .lst l => some l
  | .scr l => some l
  | _ => none
noncomputable def dItT : Dat → Option (List Dat)
  | .tup l => some l
  | _ => none
noncomputable def dItS : Dat → Option (List Dat)
  | .str s => some (s.cps.toList.map fun c => .str ⟨#[c]⟩)
  | _ => none
noncomputable def dItR : Dat → Option (List Dat)
  | .int j => if -(2 ^ 62) ≤ j ∧ j < 2 ^ 62 then some ((List.range j.toNat).map fun i : Nat => .int i) else none
  | _ => none
variable {tg : Expr} {mi : M (List Dat)}
theorem walk_list {K : PySem.W.Frag} {Hf : Hp} {aa : Addr} {xs : List V} {l : List Dat} (h : SqL K Hf aa xs) (r : Reps K Hf l xs) : Walk K Hf l (Itl K aa) where
  go := fun i H e hi => ⟨xs, xs[i]'(by rw [← r.length]; exact hi), e.seq h, List.getElem?_eq_getElem _⟩
  stop := fun H e => ⟨xs, e.seq h, Nat.le_of_eq r.length.symm⟩
  yld := fun i Hf1 H x H' e1 e2 hi y => by
    obtain ⟨rfl, y⟩ := y
    have q := y xs ((e1.trans e2).seq h)
    obtain ⟨d, q1, q2⟩ := r.get' q
    exact ⟨d, Hf1, q1, .refl e2, q2.mono e1⟩
theorem di_list (h : DE X W np e ma) : DI X W np tg e (bnd ma fun d => lft (dItL d)) := by
  refine PI.wk (pi_list h) fun σ H R ⟨Hf, η, R0, p⟩ => ⟨Hf, η, R0, p.bnd fun d Hf1 H1 η1 σ1 R1 S1 p1 e1 v rv => ?_⟩
  subst e1
  obtain ⟨l, hl, q⟩ := p1.lft R1
  cases d <;> first | (cases hl; done) | skip
  · cases hl
    cases rv with
    | lst h1 h2 => exact ⟨_, rfl, ⟨_, SqL.of (R1.ex _ _ h1)⟩, q Hf1 H1 (.refl R1.ex) rfl _ (walk_list (SqL.of h1) h2)⟩
  · cases hl
    cases rv with
    | scr h1 h2 => exact ⟨_, rfl, ⟨_, R1.ex.seq h1⟩, q Hf1 H1 (.refl R1.ex) rfl _ (walk_list h1 h2)⟩
theorem walk_tup {K : PySem.W.Frag} {Hf : Hp} {aa : Addr} {xs : List V} {l : List Dat} (h : TupAt K Hf aa xs) (r : Reps K Hf l xs) : Walk K Hf l (Itt K aa) where
  go := fun i H e hi => ⟨xs, xs[i]'(by rw [← r.length]; exact hi), (h.mono e).sq, List.getElem?_eq_getElem _⟩
  stop := fun H e => ⟨xs, (h.mono e).sq, Nat.le_of_eq r.length.symm⟩
  yld := fun i Hf1 H x H' e1 e2 hi y => by
    obtain ⟨rfl, y⟩ := y
    have q := y xs (h.mono (e1.trans e2)).sq
    obtain ⟨d, q1, q2⟩ := r.get' q
    exact ⟨d, Hf1, q1, .refl e2, q2.mono e1⟩
theorem di_tup (h : DE X W np e ma) : DI X W np tg e (bnd ma fun d => lft (dItT d)) := by
  refine PI.wk (pi_tup h) fun σ H R ⟨Hf, η, R0, p⟩ => ⟨Hf, η, R0, p.bnd fun d Hf1 H1 η1 σ1 R1 S1 p1 e1 v rv => ?_⟩
  subst e1
  obtain ⟨l, hl, q⟩ := p1.lft R1
  cases d <;> first | (cases hl; done) | skip
  cases hl
  cases rv with
  | tup h1 h2 => exact ⟨_, rfl, ⟨_, (h1.mono R1.ex).sq⟩, q Hf1 H1 (.refl R1.ex) rfl _ (walk_tup h1 h2)⟩
theorem di_str (h : DE X W np e ma) : DI X W np tg e (bnd ma fun d => lft (dItS d)) := by
  refine PI.wk (pi_str h) fun σ H R ⟨Hf, η, R0, p⟩ => ⟨Hf, η, R0, p.bnd fun d Hf1 H1 η1 σ1 R1 S1 p1 e1 v rv => ?_⟩
  subst e1
  obtain ⟨l, hl, q⟩ := p1.lft R1
  cases d <;> first | (cases hl; done) | skip
  rename_i s
  cases hl; cases rv
  refine ⟨s, rfl, q Hf1 H1 (.refl R1.ex) rfl _ ⟨fun i H e hi => ?_, fun H e => ?_, fun i Hf2 H x H' e1 e2 hi y => ?_⟩⟩
  · show i < s.cps.size
    simpa using hi
  · show s.cps.size ≤ _
    simp
  · obtain ⟨rfl, c, h1, rfl⟩ := y
    exact ⟨_, Hf2, by simp [h1], .refl e2, .str⟩
theorem di_range {p : Pos} (hg : Gl X "range") (hm : X.mg "range" = none) (h : DE X W np e ma) (hs : starEach [e] X.env = [(false, eval e X.env)] := by rfl) : DI X W np tg (.Call (.Name "range" p) [e] [] pos) (bnd ma fun d => lft (dItR d)) := by
  refine PI.wk (pi_range1 hg hm (pa_cons h pa_nil (by rw [hs]; rfl)) hs) fun σ H R ⟨Hf, η, R0, p⟩ => ⟨Hf, η, R0, p.bnd fun d Hf1 H1 η1 σ1 R1 S1 p1 e1 v rv => ?_⟩
  subst e1
  obtain ⟨l, hl, q⟩ := p1.lft R1
  cases d <;> first | (cases hl; done) | skip
  rename_i j
  simp only [dItR] at hl
  split at hl
  · rename_i hj
    cases hl; cases rv
    refine ⟨j, rfl, hj.1, hj.2, q Hf1 H1 (.refl R1.ex) rfl _ ⟨fun i H e hi => ?_, fun H e => ?_, fun i Hf2 H x H' e1 e2 hi y => ?_⟩⟩
    · show i < j.toNat
      simpa using hi
    · show j.toNat ≤ _
      simp
    · obtain ⟨rfl, rfl⟩ := y
      have hi' : i < j.toNat := by simpa using hi
      refine ⟨.int i, Hf2, ?_, .refl e2, ?_⟩
      · rw [List.getElem?_map, List.getElem?_range hi']; rfl
      · rw [Int.zero_add]; exact .int
  · cases hl

/-! ### for -/
noncomputable def mFor (f : Dat → M Unit) (body : M Out) : List Dat → M Out
  | [] => ret .nx
  | d :: ds => bnd (f d) fun _ => bnd body fun o => match o with
    | .nx => mFor f body ds
    | .ct => mFor f body ds
    | .bk => ret .nx
    | o => ret o
theorem ds_for {it : Expr} {body : List Stmt} (hp : PassesOwn (model X.prog X.w) X.A X.env X.xe) (hc : X.calm = true) (hi : DI X W np tg it mi) (hg : DG X W np tg fg) (hb : DB X W np body m1) (hs : ∀ x, foldedSetIterable it X.env x = pure x := by intro _; rfl) :
    DS X W np (.For tg it body [] pos) (bnd mi fun items => mFor fg m1 items) := by
  refine PS.wk (ps_for hp hc hi hg hb hs) fun E σ H ⟨Hf, η, R, p⟩ => ⟨Hf, η, R, p.bnd fun items Hf1 H1 η1 σ1 R1 S1 p1 e1 J wk => ?_⟩
  subst e1
  refine ⟨fun i m σ' H' => m = items.length - i ∧ i ≤ items.length ∧ ∃ Hf' η', Same Hf1 Hf' ∧ Rl X.K Hf' H' η' σ' ∧ Stp X.K np Hf H η σ1 Hf' H' η' σ' ∧ Pst X.K np W Hf' H' η' σ' (endS X.K Hf H η σ1 E) (mFor fg m1 (items.drop i) η'),
    ⟨items.length, by simp, Nat.zero_le _, Hf1, η1, .refl _, R1, S1, p1⟩, ?_⟩
  rintro i m σ2 H2 ⟨rfl, hi2, Hf2, η2, sm, R2, S2, p2⟩
  by_cases hlt : i < items.length
  · refine .inr ⟨wk.go i H2 (sm.trans R2.ex) hlt, fun σ' H' => ∃ Hf' η', Same Hf1 Hf' ∧ Rl X.K Hf' H' η' σ' ∧ Stp X.K np Hf H η σ1 Hf' H' η' σ' ∧ Pst X.K np W Hf' H' η' σ' (endS X.K Hf H η σ1 E) (mFor fg m1 (items.drop (i + 1)) η'),
      fun σ' H' q => ⟨items.length - (i + 1), by omega, rfl, hlt, q⟩, fun x H' y => ?_⟩
    obtain ⟨d, Hf3, hd, ex, rx⟩ := wk.yld i Hf2 H2 x H' sm R2.ex hlt y
    have hdr : items.drop i = d :: items.drop (i + 1) := by
      rw [List.drop_eq_getElem_cons hlt]
      rw [List.getElem?_eq_getElem hlt] at hd
      cases hd; rfl
    rw [hdr] at p2
    have S3 := S2.trans (Stp.ofExt (np := np) R2 ex)
    refine ⟨Hf3, η2, d, R2.ext ex, rx, Pst.bnd (Pst.after (.ofExt R2 ex) p2) fun _ Hf4 H4 η4 σ4 R4 S4 p4 => ?_⟩
    have S5 := S3.trans S4
    refine ⟨Hf4, η4, R4, p4.bnd fun o Hf5 H5 η5 σ5 R5 S6 p5 => ?_⟩
    have S7 := S5.trans S6
    have sm7 : Same Hf1 Hf5 := sm.trans (ex.ef.trans (S4.ef.trans S6.ef))
    cases o with
    | nx => exact ⟨Hf5, η5, sm7, R5, S7, p5⟩
    | ct => exact ⟨Hf5, η5, sm7, R5, S7, p5⟩
    | bk => exact p5 Hf5 H5 σ5 R5 .refl
    | rt d => exact p5 Hf5 H5 σ5 R5 .refl
    | ro d => exact endS.mono S5 (E := { E with nx := _, ct := _, bk := _ }) (o := .ro d) (p5 Hf5 H5 σ5 R5 .refl)
  · have e : i = items.length := by omega
    subst e
    rw [List.drop_length] at p2
    exact .inl ⟨wk.stop H2 (sm.trans R2.ex), p2 Hf2 H2 σ2 R2 .refl⟩
end
end D

namespace D
open PySem L2

/-! ### list comprehensions -/
noncomputable def wipeE (η : En) : List Nat → En
  | [] => η
  | v :: vs => (wipeE η vs).set v .no
noncomputable def wipeM (vs : List Nat) : M Unit := fun η => .ok () (wipeE η vs)
noncomputable def nox {α : Type} (m : M α) : M α := fun η => match m η with
  | .ok a η' => .ok a η'
  | _ => .bad
noncomputable def lcGo (vs : List Nat) (f : Dat → M Unit) (mt : M Bool) (me : M Dat) : List Dat → M (List Dat)
  | [] => ret []
  | d :: ds => bnd (nox (f d)) fun _ => bnd (nox mt) fun k => if k then bnd (nox me) fun y => bnd (wipeM vs) fun _ => bnd (lcGo vs f mt me ds) fun r => ret (y :: r) else bnd (wipeM vs) fun _ => lcGo vs f mt me ds
noncomputable def mLc (vs : List Nat) (f : Dat → M Unit) (mt : M Bool) (me : M Dat) (items : List Dat) : M Dat :=
  if fits items.length then bnd (wipeM vs) fun _ => bnd (lcGo vs f mt me items) fun l => ret (.lst l) else stk

theorem wipeE_len (η : En) : ∀ vs : List Nat, (wipeE η vs).length = η.length
  | [] => rfl
  | v :: vs => by unfold wipeE; rw [List.length_set, wipeE_len η vs]
theorem wipeE_get {η : En} {i : Nat} {s : Sl} : ∀ {vs : List Nat}, (wipeE η vs)[i]? = some s → s = .no ∨ (i ∉ vs ∧ η[i]? = some s)
  | [], h => .inr ⟨by simp, h⟩
  | v :: vs, h => by
    rcases set_get (show ((wipeE η vs).set v .no)[i]? = some s from h) with ⟨_, e⟩ | ⟨ne, h⟩
    · exact .inl e
    · rcases wipeE_get h with h | ⟨h1, h2⟩
      · exact .inl h
      · exact .inr ⟨fun z => (List.mem_cons.mp z).elim ne h1, h2⟩
section
variable {α β : Type} {K : PySem.W.Frag} {np : Nat} {W W' : WX} {Hf H Hf1 H1 Hf' H' : Hp} {η η1 η' : En} {σ σ1 σ' : St} {vs : List Nat}
theorem Rl.wipe (R : Rl K Hf H η σ) (vs : List Nat) : Rl K Hf H (wipeE η vs) (L2.wipe σ vs) ∧ Stp K np Hf H η σ Hf H (wipeE η vs) (L2.wipe σ vs) := by
  have get : ∀ (i : Nat) s, s ≠ Sl.no → (wipeE η vs)[i]? = some s → η[i]? = some s ∧ (L2.wipe σ vs)[i]? = σ[i]? := fun i s hs h => by
    rcases wipeE_get h with h | ⟨h1, h2⟩
    · exact absurd h hs
    · exact ⟨h2, wipe_out h1⟩
  refine ⟨⟨R.ex, by rw [wipeE_len, wipe_length]; exact R.len, fun i d h => ?_, fun i d h => ?_, fun i j d e a b F G c h1 h2 h3 h4 => ?_⟩, ⟨.refl _, fun _ _ h _ => h, fun _ h => h, fun b ⟨i, d, a, F, h1, h2, h3⟩ => ?_, fun _ _ h => .inl h, fun i d _ h => ?_⟩⟩
  · obtain ⟨g1, g2⟩ := get i _ (fun z => by cases z) h
    rw [g2]; exact R.fr i d g1
  · obtain ⟨g1, g2⟩ := get i _ (fun z => by cases z) h
    rw [g2]; exact R.ow i d g1
  · obtain ⟨g1, g2⟩ := get i _ (fun z => by cases z) h1
    obtain ⟨g3, g4⟩ := get j _ (fun z => by cases z) h2
    rw [g2] at h3; rw [g4] at h4
    exact R.ap i j d e a b F G c g1 g3 h3 h4
  · obtain ⟨g1, g2⟩ := get i _ (fun z => by cases z) h1
    rw [g2] at h2
    exact .inl ⟨i, d, a, F, g1, h2, h3⟩
  · obtain ⟨g1, g2⟩ := get i _ (fun z => by cases z) h
    exact ⟨⟨d, g1⟩, g2⟩
theorem Rl.unwipe (R : Rl K Hf H η (L2.wipe σ vs)) : Rl K Hf H η σ ∧ Stp K np Hf H η (L2.wipe σ vs) Hf H η σ := by
  refine ⟨⟨R.ex, by rw [R.len, wipe_length], fun i d h => ?_, fun i d h => ?_, fun i j d e a b F G c h1 h2 h3 h4 => ?_⟩, ⟨.refl _, fun _ _ h _ => h, fun _ h => h, fun b ⟨i, d, a, F, h1, h2, h3⟩ => ?_, fun _ _ h => .inl h, fun i d _ h => ?_⟩⟩
  · obtain ⟨v, g1, g2⟩ := R.fr i d h
    exact ⟨v, (wipe_some g1).1, g2⟩
  · obtain ⟨v, F, g1, g2⟩ := R.ow i d h
    exact ⟨v, F, (wipe_some g1).1, g2⟩
  · obtain ⟨v, _, g1, _⟩ := R.ow i d h1
    obtain ⟨u, _, g2, _⟩ := R.ow j e h2
    rw [(wipe_some g1).1] at h3; cases h3
    rw [(wipe_some g2).1] at h4; cases h4
    exact R.ap i j d e _ _ F G c h1 h2 g1 g2
  · obtain ⟨v, _, g1, _⟩ := R.ow i d h1
    rw [(wipe_some g1).1] at h2; cases h2
    exact .inl ⟨i, d, _, F, h1, g1, h3⟩
  · obtain ⟨v, _, g1, _⟩ := R.ow i d h
    exact ⟨⟨d, h⟩, by rw [g1, (wipe_some g1).1]⟩
theorem Pst.bnd2 {m : M α} {f : α → M β} {R : β → Hp → Hp → En → St → Prop} {R1 : α → Hp → Hp → En → St → Prop} (p : Pst K np W Hf H η σ R (D.bnd m f η')) (S : Stp K np Hf H η σ Hf' H' η' σ')
    (h : ∀ a Hf1 H1 η1 σ1, Rl K Hf1 H1 η1 σ1 → Stp K np Hf' H' η' σ' Hf1 H1 η1 σ1 → Pst K np W Hf H η σ R (f a η1) → R1 a Hf1 H1 η1 σ1) : Pst K np W Hf' H' η' σ' R1 (m η') := by
  unfold D.bnd at p
  cases e : m η' with
  | ok a η1 => rw [e] at p; exact fun Hf1 H1 σ1 r s => h a Hf1 H1 η1 σ1 r s p
  | rs x η1 => rw [e] at p; exact fun Hf1 H1 σ1 dx r s q => p Hf1 H1 σ1 dx r (S.trans s) (q.from S.nn)
  | bad => rw [e] at p; exact p
theorem Pst.nox {m : M α} {R : α → Hp → Hp → En → St → Prop} (p : Pst K np W Hf H η σ R (D.nox m η')) : Pst K np W' Hf H η σ R (m η') := by
  unfold D.nox at p
  cases e : m η' with
  | ok a η1 => rw [e] at p; exact p
  | rs x η1 => rw [e] at p; exact False.elim p
  | bad => rw [e] at p; exact p
theorem Own.ofUpd {pa b : Addr} {u : HO} (R : Rl K Hf H η σ) (n : Hf pa = none) (no : ¬ Own K Hf H η σ pa) : Own K Hf (upd H pa u) η σ b → Own K Hf H η σ b := fun ⟨i, d, a, F, h1, h2, h3, h4⟩ =>
  ⟨i, d, a, F, h1, h2, R.ownNow (.refl _) (fun b o h => by rw [upd_ne (ne_of_none h n)]; exact R.ex _ _ h) h1 h2 h3 fun G o c hc w hw => by
    have nb : c ≠ pa := fun z => by subst z; exact no ⟨i, d, a, G, h1, h2, o, hc⟩
    rw [upd_ne nb]; exact hw, h4⟩
theorem Rl.updNew {pa : Addr} {u : HO} (R : Rl K Hf H η σ) (n : Hf pa = none) (no : ¬ Own K Hf H η σ pa) : Rl K Hf (upd H pa u) η σ := by
  have kp : ∀ (i : Nat) (d : Dat) (a : Addr) (G : List Addr), η[i]? = some (Sl.ow d) → σ[i]? = some (some (V.ref a)) → OwnAt K Hf H G a d → ∀ c ∈ G, ∀ w, H c = some w → upd H pa u c = some w := fun i d a G h1 h2 o c hc w hw => by
    have nb : c ≠ pa := fun z => by subst z; exact no ⟨i, d, a, G, h1, h2, o, hc⟩
    rw [upd_ne nb]; exact hw
  have sx : Same Hf (upd H pa u) := fun b o h => by rw [upd_ne (ne_of_none h n)]; exact R.ex _ _ h
  exact ⟨sx, R.len, R.fr, fun i d h => by
    obtain ⟨a, F, g1, g2, g3⟩ := R.ow i d h
    exact ⟨a, F, g1, g2.mono (.refl _) sx (kp i d a F h g1 g2), g3⟩, fun i j d e a b F G c h1 h2 h3 h4 h5 h6 => R.ap i j d e a b F G c h1 h2 h3 h4 (R.ownNow (.refl _) sx h1 h3 h5 fun G' o => kp i d a G' h1 h3 o) (R.ownNow (.refl _) sx h2 h4 h6 fun G' o => kp j e b G' h2 h4 o)⟩
theorem Stp.updNew {pa : Addr} {u : HO} (R' : Rl K Hf' H' η' σ') (n' : Hf' pa = none) (no : ¬ Own K Hf' H' η' σ' pa) (S : Stp K np Hf H η σ Hf' H' η' σ') (n : H pa = none) : Stp K np Hf H η σ Hf' (upd H' pa u) η' σ' :=
  ⟨S.ef, fun b o h q => by rw [upd_ne (ne_of_none h n)]; exact S.fr b o h q, fun b h => by
    by_cases z : b = pa
    · rw [z]; exact n
    · rw [upd_ne z] at h; exact S.nn b h, fun b h => S.ow b (Own.ofUpd R' n' no h), S.nf, S.pr⟩
/-- a cell that is no slot's stands through a step -/
theorem Stp.cell {pa : Addr} {u : HO} (S : Stp K np Hf H η σ Hf' H' η' σ') (h : H pa = some u) (no : ¬ Own K Hf H η σ pa) (n : Hf pa = none) : H' pa = some u ∧ ¬ Own K Hf' H' η' σ' pa ∧ Hf' pa = none := by
  refine ⟨S.fr pa u h no, fun z => ?_, ?_⟩
  · rcases S.ow pa z with q | q
    · exact no q
    · rw [h] at q; cases q
  · cases z : Hf' pa with
    | none => rfl
    | some o =>
      rcases S.nf pa o z with q | q | q
      · rw [n] at q; cases q
      · rw [h] at q; cases q
      · exact absurd q no
end
noncomputable abbrev W0 : WX := fun _ _ _ _ => False
section
variable {X : Cx} {W : WX} {np : Nat} {elt tg it : Expr} {ifs : List Expr} {scope : Scope} {own : List (Str × Nat)} {pos : Pos} {mi : M (List Dat)} {fg : Dat → M Unit} {mt : M Bool} {me : M Dat}
theorem dts_nil : PTs X [] (rdT X.K np W (ret true)) := ⟨fun pins s σ H Q I ⟨Hf, η, R, p⟩ => (pts_nil (X := X)).run pins s σ H Q I (p.ret R rfl)⟩
theorem dts_one {c : Expr} (h : DT X W np c mt) : PTs X [c] (rdT X.K np W mt) := pts_one h
/-! targets in a comprehension -/
theorem wipe_char (σ : St) (j : Nat) : ∀ vs : List Nat, (L2.wipe σ vs)[j]? = if j ∈ vs then (σ[j]?).map (fun _ => none) else σ[j]?
  | [] => by simp [L2.wipe]
  | v :: vs => by
    show ((L2.wipe σ vs).set v none)[j]? = _
    have ih := wipe_char σ j vs
    by_cases e : j = v
    · subst e
      rw [if_pos List.mem_cons_self]
      by_cases hj : j < σ.length
      · rw [List.getElem?_set_self (by rw [wipe_length]; exact hj), List.getElem?_eq_getElem hj]; rfl
      · rw [List.getElem?_eq_none_iff.mpr (by rw [List.length_set, wipe_length]; omega), List.getElem?_eq_none_iff.mpr (by omega)]; rfl
    · rw [List.getElem?_set_ne (Ne.symm e), ih]
      by_cases hm : j ∈ vs
      · rw [if_pos hm, if_pos (List.mem_cons_of_mem _ hm)]
      · rw [if_neg hm, if_neg fun z => (List.mem_cons.mp z).elim e hm]
theorem wipe_set {σ : St} {i : Nat} {x : Option V} {vs : List Nat} (h : i ∈ vs) : L2.wipe (σ.set i x) vs = L2.wipe σ vs := by
  apply List.ext_getElem?
  intro j
  rw [wipe_char, wipe_char]
  by_cases hm : j ∈ vs
  · rw [if_pos hm, if_pos hm]
    by_cases e : j = i
    · subst e
      by_cases hj : j < σ.length
      · rw [List.getElem?_set_self hj, List.getElem?_eq_getElem hj]; rfl
      · rw [List.getElem?_eq_none_iff.mpr (by rw [List.length_set]; omega), List.getElem?_eq_none_iff.mpr (by omega)]
    · rw [List.getElem?_set_ne (Ne.symm e)]
  · rw [if_neg hm, if_neg hm, List.getElem?_set_ne (fun z => hm (by rw [← z]; exact h))]
noncomputable def rdGw (K : PySem.W.Frag) (np : Nat) (vs : List Nat) (f : Dat → M Unit) : TG := fun v σ H Q => ∃ Hf η d, Rl K Hf H η σ ∧ Rep K Hf d v ∧ Pst K np W0 Hf H η σ (fun _ _ H' _ σ' => L2.wipe σ' vs = L2.wipe σ vs → Q σ' H') (f d η)
noncomputable def rdGws (K : PySem.W.Frag) (np : Nat) (vs : List Nat) (f : List Dat → M Unit) : TGs := fun us σ H Q => ∃ Hf η ds, Rl K Hf H η σ ∧ Reps K Hf ds us ∧ Pst K np W0 Hf H η σ (fun _ _ H' _ σ' => L2.wipe σ' vs = L2.wipe σ vs → Q σ' H') (f ds η)
noncomputable abbrev DGw (X : Cx) (np : Nat) (vs : List Nat) (tg : Expr) (f : Dat → M Unit) : Prop := PG X tg (rdGw X.K np vs f)
noncomputable abbrev DGws (X : Cx) (np : Nat) (vs : List Nat) (tg : List Expr) (f : List Dat → M Unit) : Prop := PGs X tg (rdGws X.K np vs f)
variable {vs : List Nat} {e : Expr} {es : List Expr} {fgs : List Dat → M Unit}
theorem dgw_name {i : Nat} (h : PG X e (gName i)) (hi : i ∈ vs) : DGw X np vs e (gSet i) := by
  refine PG.wk h fun v σ H Q ⟨Hf, η, d, R, r, p⟩ => ?_
  obtain ⟨r2, s2⟩ := Rl.setF (np := np) (i := i) R r
  exact p Hf H _ r2 s2 (wipe_set hi)
theorem dgws_nil : DGws X np vs [] gNil' := by
  refine PGs.wk pgs_nil fun us σ H Q ⟨Hf, η, ds, R, r, p⟩ => ?_
  cases r with
  | nil => exact ⟨rfl, p Hf H σ R .refl rfl⟩
  | cons _ _ => exact False.elim p
theorem dgws_cons (h1 : DGw X np vs e fg) (h2 : DGws X np vs es fgs) (hs : (assignEach (e :: es) X.env).map (·.2) = assign e X.env :: (assignEach es X.env).map (·.2) := by rfl) : DGws X np vs (e :: es) (gCons' fg fgs) := by
  refine PGs.wk (pgs_cons h1 h2 hs) fun us σ H Q ⟨Hf, η, ds, R, r, p⟩ => ?_
  cases r with
  | nil => exact False.elim p
  | @cons d x l xs h r =>
    refine ⟨x, xs, rfl, Hf, η, d, R, h, Pst.bnd p fun _ Hf1 H1 η1 σ1 R1 S1 p1 ew => ?_⟩
    refine ⟨Hf1, η1, l, R1, r.mono S1.ef, ?_⟩
    rw [ew]; exact p1
theorem dgw_tup {k n : Nat} (hc : X.calm = true) (h : DGws X np vs es fgs) (hlen : ∀ l η, l.length ≠ n → fgs l η = .bad) (hn : (assignEach es X.env).length = n := by rfl) (hst : (assignEach es X.env).findIdx? (·.1) = none := by rfl) : DGw X np vs (.Tuple es k pos) (gTup' fgs) := by
  refine PG.wk (pg_tup hc h hn hst) fun v σ H Q ⟨Hf, η, d, R, r, p⟩ => ?_
  have hd : ∃ l, d = .tup l := by
    cases d <;> first | exact False.elim p | skip
    exact ⟨_, rfl⟩
  obtain ⟨l, rfl⟩ := hd
  obtain ⟨aa, xs, rfl, h1, h2⟩ := RepP.tup R.ex (.inl r)
  refine ⟨aa, xs, rfl, h1.sq, ?_, Hf, η, l, R, h2, p⟩
  rw [← h2.length]
  by_cases z : l.length = n
  · exact z
  · have := hlen l η z
    unfold gTup' at p
    simp only [this] at p
    exact False.elim p
theorem lc_rd {K : PySem.W.Frag} {σ : St} {H : Hp} {Q : VK} (hh : rdO K np W (bnd mi fun items => mLc vs fg mt me items) σ H Q) : tLc (rdI K np W mi) (rdGw K np vs fg) (rdT K np W0 mt) (rdE K np W0 me) vs σ H Q := by
  obtain ⟨Hf, η, R, p⟩ := hh
  refine ⟨Hf, η, R, p.bnd fun items Hf1 H1 η1 σ1 R1 S1 p1 e1 J wk => ?_⟩
  subst e1
  intro Da nD
  unfold mLc at p1
  by_cases hf : fits items.length = true
  · rw [if_pos hf] at p1
    have hlen : items.length ≤ 1000000 := of_decide_eq_true hf
    obtain ⟨Rw, Sw⟩ := Rl.wipe (np := np) R1 vs
    have pw : Pst K np W Hf1 H1 η1 σ1 (fun d Hf' H' η' σ' => σ' = σ1 → ∀ p, Nw K Hf H η σ1 p → Hf' p = none → OwnF K Hf' H' p d → ¬ Own K Hf' H' η' σ' p → Q (.ref p) H') (bnd (lcGo vs fg mt me items) (fun l => ret (.lst l)) (wipeE η1 vs)) := p1
    have pb : Pst K np W Hf1 H1 η1 σ1 (fun l Hf' H' η' σ' => σ' = L2.wipe σ1 vs → ∀ xs, Hf' Da = none → H' Da = some (.lst xs) → Reps K Hf' l xs → ¬ Own K Hf' H' η' σ' Da → Q (.ref Da) H') (lcGo vs fg mt me items (wipeE η1 vs)) := by
      have hh := pw
      unfold bnd at hh
      cases z : lcGo vs fg mt me items (wipeE η1 vs) with
      | ok l η' =>
        rw [z] at hh
        intro Hf' H' σ' r s e2 xs n1 h1 h2 no
        subst e2
        obtain ⟨ru, su⟩ := Rl.unwipe (np := np) r
        refine hh Hf' H' σ1 ru (s.trans su) rfl Da (.inl (S1.nn Da nD)) n1 ⟨.lst h1 h2, nofun⟩ fun zz => no ?_
        obtain ⟨i, d, _, F, g1, g2, g4⟩ := zz
        obtain ⟨a, _, g3, _⟩ := r.ow i d g1
        rw [(wipe_some g3).1] at g2; cases g2
        exact ⟨i, d, _, F, g1, g3, g4⟩
      | rs x η' => rw [z] at hh; exact hh
      | bad => rw [z] at hh; exact hh
    have noD : ∀ {η : En} {σ : St}, ¬ Own K Hf1 H1 η σ Da := fun z => by
      obtain ⟨u, hu⟩ := z.there
      rw [nD] at hu; cases hu
    have nfD : Hf1 Da = none := R1.ex.free nD
    refine ⟨fun i m H' => m = items.length - i ∧ i ≤ items.length ∧ ∃ Hf' η' acc xs, Same Hf1 Hf' ∧ Rl K Hf' H' η' (L2.wipe σ1 vs) ∧ Stp K np Hf1 H1 η1 σ1 Hf' H' η' (L2.wipe σ1 vs) ∧ H' Da = some (.lst xs) ∧ Reps K Hf' acc xs ∧ acc.length ≤ i ∧ Hf' Da = none ∧ ¬ Own K Hf' H' η' (L2.wipe σ1 vs) Da ∧
        Pst K np W Hf1 H1 η1 σ1 (fun l Hf' H' η' σ' => σ' = L2.wipe σ1 vs → ∀ xs, Hf' Da = none → H' Da = some (.lst xs) → Reps K Hf' (acc ++ l) xs → ¬ Own K Hf' H' η' σ' Da → Q (.ref Da) H') (lcGo vs fg mt me (items.drop i) η'),
      ⟨items.length, by simp, Nat.zero_le _, Hf1, _, [], [], .refl _, Rw.updNew nfD noD, Sw.updNew Rw nfD noD nD, upd_same, .nil, Nat.le_refl _, nfD, fun z => noD (Own.ofUpd Rw nfD noD z), pb⟩, ?_⟩
    rintro i m H2 ⟨rfl, hi2, Hf2, η2, acc, xs, sm, R2, S2, hD, rA, hA, nfA, noA, p2⟩
    by_cases hlt : i < items.length
    · refine .inr ⟨wk.go i H2 (sm.trans R2.ex) hlt, fun H' => ∃ Hf' η' acc xs, Same Hf1 Hf' ∧ Rl K Hf' H' η' (L2.wipe σ1 vs) ∧ Stp K np Hf1 H1 η1 σ1 Hf' H' η' (L2.wipe σ1 vs) ∧ H' Da = some (.lst xs) ∧ Reps K Hf' acc xs ∧ acc.length ≤ i + 1 ∧ Hf' Da = none ∧ ¬ Own K Hf' H' η' (L2.wipe σ1 vs) Da ∧
          Pst K np W Hf1 H1 η1 σ1 (fun l Hf' H' η' σ' => σ' = L2.wipe σ1 vs → ∀ xs, Hf' Da = none → H' Da = some (.lst xs) → Reps K Hf' (acc ++ l) xs → ¬ Own K Hf' H' η' σ' Da → Q (.ref Da) H') (lcGo vs fg mt me (items.drop (i + 1)) η'),
        fun H' q => ⟨items.length - (i + 1), by omega, rfl, hlt, q⟩, fun x H' y => ?_⟩
      obtain ⟨d, Hf3, hd, ex, rx⟩ := wk.yld i Hf2 H2 x H' sm R2.ex hlt y
      have hdr : items.drop i = d :: items.drop (i + 1) := by
        rw [List.drop_eq_getElem_cons hlt]
        rw [List.getElem?_eq_getElem hlt] at hd
        cases hd; rfl
      rw [hdr] at p2
      have Se := Stp.ofExt (np := np) R2 ex
      obtain ⟨hD3, noA3, nfA3⟩ := Se.cell hD noA nfA
      have S3 := S2.trans Se
      refine ⟨Hf3, η2, d, R2.ext ex, rx, Pst.nox (W := W) (Pst.bnd2 p2 S3 fun _ Hf4 H4 η4 σ4 R4 S4 p4 ew => ?_)⟩
      obtain ⟨hD4, noA4, nfA4⟩ := S4.cell hD3 noA3 nfA3
      have S5 := S3.trans S4
      have ew : L2.wipe σ4 vs = L2.wipe σ1 vs := by
        rw [ew]
        apply List.ext_getElem?
        intro j
        rw [wipe_char, wipe_char]
        by_cases hm : j ∈ vs
        · rw [if_pos hm, if_pos hm]
          cases σ1[j]? <;> rfl
        · rw [if_neg hm]
      refine ⟨ew, Hf4, η4, R4, Pst.nox (W := W) (Pst.bnd2 p4 S5 fun k Hf5 H5 η5 σ5 R5 S6 p5 e5 => ?_)⟩
      subst e5
      obtain ⟨hD5, noA5, nfA5⟩ := S6.cell hD4 noA4 nfA4
      have S7 := S5.trans S6
      have sm5 : Same Hf1 Hf5 := sm.trans (ex.ef.trans (S4.ef.trans S6.ef))
      cases k with
      | true =>
        show rdE K np W0 me _ _ _
        refine ⟨Hf5, η5, R5, Pst.nox (W := W) (Pst.bnd2 p5 S7 fun y Hf6 H6 η6 σ6 R6 S8 p6 e6 v rv => ?_)⟩
        subst e6
        obtain ⟨hD6, noA6, nfA6⟩ := S8.cell hD5 noA5 nfA5
        obtain ⟨Rw7, Sw7⟩ := Rl.wipe (np := np) R6 vs
        rw [ew] at Rw7 Sw7
        have no7 : ¬ Own K Hf6 H6 (wipeE η6 vs) (L2.wipe σ1 vs) Da := fun zz => by
          rcases Sw7.ow Da zz with q | q
          · exact noA6 q
          · rw [hD6] at q; cases q
        have rA6 : Reps K Hf6 acc xs := rA.mono (ex.ef.trans (S4.ef.trans (S6.ef.trans S8.ef)))
        refine ⟨xs, hD6, ?_, Hf6, _, acc ++ [y], xs ++ [v], sm5.trans S8.ef, Rw7.updNew nfA6 no7, ((S7.trans S8).trans Sw7).updNew Rw7 nfA6 no7 nD, upd_same, rA6.append (.cons rv .nil), by simp; omega, nfA6, fun z => no7 (Own.ofUpd Rw7 nfA6 no7 z), ?_⟩
        · rw [← rA.length]; exact Nat.lt_of_le_of_lt (Nat.le_trans hA (Nat.le_of_lt (Nat.lt_of_lt_of_le hlt hlen))) (by decide)
        · have p7 : Pst K np W Hf1 H1 η1 σ1 _ (bnd (lcGo vs fg mt me (items.drop (i + 1))) (fun r => ret (y :: r)) (wipeE η6 vs)) := p6
          unfold bnd at p7
          cases z : lcGo vs fg mt me (items.drop (i + 1)) (wipeE η6 vs) with
          | ok l η' =>
            rw [z] at p7
            intro Hf' H' σ' r s e8 xs' n8 h8 r8 no8
            exact p7 Hf' H' σ' r s e8 xs' n8 h8 (by rw [List.append_assoc] at r8; exact r8) no8
          | rs xx η' => rw [z] at p7; exact p7
          | bad => rw [z] at p7; exact p7
      | false =>
        obtain ⟨Rw7, Sw7⟩ := Rl.wipe (np := np) R5 vs
        rw [ew] at Rw7 Sw7
        have no7 : ¬ Own K Hf5 H5 (wipeE η5 vs) (L2.wipe σ1 vs) Da := fun zz => by
          rcases Sw7.ow Da zz with q | q
          · exact noA5 q
          · rw [hD5] at q; cases q
        have rA5 : Reps K Hf5 acc xs := rA.mono (ex.ef.trans (S4.ef.trans S6.ef))
        show ∃ _, _
        exact ⟨Hf5, _, acc, xs, sm5, Rw7, S7.trans Sw7, hD5, rA5, by omega, nfA5, no7, p5⟩
    · have e : i = items.length := by omega
      subst e
      rw [List.drop_length] at p2
      exact .inl ⟨wk.stop H2 (sm.trans R2.ex), p2 Hf2 H2 _ R2 S2 rfl xs nfA hD (by rw [List.append_nil]; exact rA) noA⟩
  · rw [if_neg hf] at p1
    exact False.elim p1
theorem do_lc (hc : X.calm = true) (hN : X.N.Nodup) (hi : DI X W np tg it mi) (ok : BlkOk X.N X.env.scope scope own)
    (hg : ∀ (s : Shared) (H : Hp) (C : Addr) (cl : List (Str × Addr)) (fp : List Addr), DGw (X.blk s H scope (compEnvC scope cl C X.env) fp) np (own.map (·.2)) tg fg)
    (ht : ∀ (s : Shared) (H : Hp) (C : Addr) (cl : List (Str × Addr)) (fp : List Addr), PTs (X.blk s H scope (compEnvC scope cl C X.env) fp) ifs (rdT X.K np W0 mt))
    (he : ∀ (s : Shared) (H : Hp) (C : Addr) (cl : List (Str × Addr)) (fp : List Addr), DE (X.blk s H scope (compEnvC scope cl C X.env) fp) W0 np elt me)
    (hs : ∀ x, foldedSetIterable it X.env x = pure x := by intro _; rfl) :
    DO X W np (.ListComp elt [⟨tg, it, ifs, 0⟩] scope pos) (bnd mi fun items => mLc (own.map (·.2)) fg mt me items) := by
  exact PE.wk (pe_lc (g := rdGw X.K np (own.map (·.2)) fg) (te := rdE X.K np W0 me) hc hN hi ok hg ht he hs) fun σ H Q h => lc_rd h
end
end D

namespace D
open PySem L2
noncomputable def zipD : List Dat → List Dat → List Dat
  | x :: xs, y :: ys => .tup [x, y] :: zipD xs ys
  | _, _ => []
noncomputable def dItZ : Dat → Dat → Option (List Dat)
  | .lst a, .lst b => some (zipD a b)
  | .tup a, .tup b => some (zipD a b)
  | _, _ => none
theorem zipD_len : ∀ a b : List Dat, (zipD a b).length = min a.length b.length
  | [], _ => by simp [zipD]
  | _ :: _, [] => by simp [zipD]
  | _ :: xs, _ :: ys => by simp only [zipD, List.length_cons, zipD_len xs ys]; omega
theorem zipD_get : ∀ {a b : List Dat} {i : Nat} {x y : Dat}, a[i]? = some x → b[i]? = some y → (zipD a b)[i]? = some (.tup [x, y])
  | [], _, _, _, _, h, _ => by simp at h
  | _ :: _, [], _, _, _, _, h => by simp at h
  | _ :: _, _ :: _, 0, _, _, h1, h2 => by simp at h1 h2; subst h1; subst h2; rfl
  | _ :: xs, _ :: ys, i + 1, _, _, h1, h2 => by simpa [zipD] using zipD_get (a := xs) (b := ys) (i := i) (by simpa using h1) (by simpa using h2)
section
variable {X : Cx} {W : WX} {np : Nat} {e e2 : Expr} {pos p tpos : Pos} {elts : List Expr} {kk : Nat} {ma mb : M Dat}
theorem walk_zip {K : PySem.W.Frag} {Hf : Hp} {a b : Addr} {xs ys : List V} {l m : List Dat} (h1 : SqL K Hf a xs) (r1 : Reps K Hf l xs) (h2 : SqL K Hf b ys) (r2 : Reps K Hf m ys) : Walk K Hf (zipD l m) (Itz K a b) where
  go := fun i H e hi => by
    rw [zipD_len, r1.length, r2.length] at hi
    exact ⟨xs, ys, xs[i]'(by omega), ys[i]'(by omega), e.seq h1, e.seq h2, List.getElem?_eq_getElem _, List.getElem?_eq_getElem _⟩
  stop := fun H e => ⟨xs, ys, e.seq h1, e.seq h2, by rw [zipD_len, r1.length, r2.length]; omega⟩
  yld := fun i Hf1 H x H' e1 e2 hi y => by
    obtain ⟨T, x', y', rfl, nT, rfl, q1, q2⟩ := y
    obtain ⟨d1, g1, g2⟩ := r1.get' (q1 xs ((e1.trans e2).seq h1))
    obtain ⟨d2, g3, g4⟩ := r2.get' (q2 ys ((e1.trans e2).seq h2))
    have ex := Ext.new (u := .tup [x', y']) e2 nT
    exact ⟨_, _, zipD_get g1 g3, ex, .tup (.inl upd_same) (.cons (g2.mono (e1.trans ex.ef)) (.cons (g4.mono (e1.trans ex.ef)) .nil))⟩
theorem walk_zipT {K : PySem.W.Frag} {Hf : Hp} {a b : Addr} {xs ys : List V} {l m : List Dat} (h1 : TupAt K Hf a xs) (r1 : Reps K Hf l xs) (h2 : TupAt K Hf b ys) (r2 : Reps K Hf m ys) : Walk K Hf (zipD l m) (RZ.ItzT K a b) where
  go := fun i H e hi => by
    rw [zipD_len, r1.length, r2.length] at hi
    exact ⟨xs, ys, xs[i]'(by omega), ys[i]'(by omega), (h1.mono e).sq, (h2.mono e).sq, List.getElem?_eq_getElem _, List.getElem?_eq_getElem _⟩
  stop := fun H e => ⟨xs, ys, (h1.mono e).sq, (h2.mono e).sq, by rw [zipD_len, r1.length, r2.length]; omega⟩
  yld := fun i Hf1 H x H' e1 e2 hi y => by
    obtain ⟨T, x', y', rfl, nT, rfl, q1, q2⟩ := y
    obtain ⟨d1, g1, g2⟩ := r1.get' (q1 xs (h1.mono (e1.trans e2)).sq)
    obtain ⟨d2, g3, g4⟩ := r2.get' (q2 ys (h2.mono (e1.trans e2)).sq)
    have ex := Ext.new (u := .tup [x', y']) e2 nT
    exact ⟨_, _, zipD_get g1 g3, ex, .tup (.inl upd_same) (.cons (g2.mono (e1.trans ex.ef)) (.cons (g4.mono (e1.trans ex.ef)) .nil))⟩
theorem di_zip (hg : Gl X "zip") (hm : X.mg "zip" = none) (ha : DE X W np e ma) (hb : DE X W np e2 mb)
    (hs : starEach [e, e2] X.env = (false, eval e X.env) :: starEach [e2] X.env := by rfl) (hs2 : starEach [e2] X.env = (false, eval e2 X.env) :: starEach [] X.env := by rfl) (hpl : (backTo pos (starEach [e2] X.env)).any (·.1) = false := by rfl) :
    DI X W np (.Tuple elts kk tpos) (.Call (.Name "zip" p) [e, e2] [] pos) (bnd ma fun d => bnd mb fun d2 => lft (dItZ d d2)) := by
  refine PI.wk (RZ.pi_zipA hg hm (pa_cons ha (pa_cons hb pa_nil hs2) hs) hs hpl) fun σ H R ⟨Hf, η, R0, p⟩ => ⟨Hf, η, R0, p.bnd fun d Hf1 H1 η1 σ1 R1 S1 p1 e1 v rv => ?_⟩
  subst e1
  refine ⟨Hf1, η1, R1, p1.bnd fun d2 Hf2 H2 η2 σ2 R2 S2 p2 e2 u ru => ?_⟩
  subst e2
  obtain ⟨l, hl, q⟩ := p2.lft R2
  have rv := rv.mono S2.ef
  unfold dItZ at hl
  split at hl
  · cases hl
    cases rv with
    | lst h1 h2 =>
      cases ru with
      | lst h3 h4 => exact ⟨_, _, _, _, rfl, .inl ⟨SqL.of (R2.ex _ _ h1), SqL.of (R2.ex _ _ h3), q Hf2 H2 (.refl R2.ex) rfl _ (walk_zip (SqL.of h1) h2 (SqL.of h3) h4)⟩⟩
  · cases hl
    cases rv with
    | tup h1 h2 =>
      cases ru with
      | tup h3 h4 => exact ⟨_, _, _, _, rfl, .inr ⟨(h1.mono R2.ex).sq, (h3.mono R2.ex).sq, q Hf2 H2 (.refl R2.ex) rfl _ (walk_zipT h1 h2 h3 h4)⟩⟩
  · cases hl
end
end D

namespace D
open PySem L2

section
variable {P : Program} {w : World} {K : PySem.W.Frag} {mg : Str → Option Value} {base : Heap}
theorem fn_D {x qual : Str} {pa : Arguments} {bd : List Stmt} {sc : Scope} {dvs : List V} {kws : List (Str × V)} {f : Addr} {fd : FuncData} {N ps : List Str} {k : Nat} {body : M Out} (F : FunD K x qual pa bd sc dvs kws f fd) (S : FnScope N ps sc) (hN : ps.length ≤ N.length)
    (hbody : ∀ (cdv : Value) (A : Around) (outer : List Env) (s : Shared) (H : Hp) (E : XK), Room k (A.deeper (PyProof.Rows.envOfC qual sc s.heap.objs.size f cdv)) →
      DB (cxOf (L2N.CX P w) P w K mg base N qual sc f cdv A outer s H E) (fun cls d _ H => E cls d H) ps.length bd body) :
    FnOk P w K mg base (L2N.CX P w) (k + 1) f fd ps (spD K ps.length (mkF N.length body)) := by
  obtain ⟨oc, od, dV, kV, doc, pm, an, cdv, ct, osl, rfl, lk, hcd, _, _⟩ := F.ex
  refine fn_of lk hcd S (fun vs H Q E h => h.1) (fun A outer s H vs Q E hr h => ?_)
  obtain ⟨hv, Hf, as, R, p⟩ := h
  refine ⟨_, hbody cdv A outer s H E hr, Hf, as ++ List.replicate (N.length - as.length) Sl.no, Rl.start (N := N) R (by omega), ?_⟩
  exact leave_body hv R p
/-- a def's whole: its promise, how it is called -/
noncomputable def Fn (P : Program) (w : World) (K : PySem.W.Frag) (mg : Str → Option Value) (base : Heap) (k : Nat) (x : Str) (n : Nat) (dds : List Dat) (F : M Sl) : Prop :=
  ∃ fd ps, ps.length = n ∧ FnOk P w K mg base (L2N.CX P w) k (He.ga K x) fd ps (spD K n F) ∧ (∃ ds dvs, Vals dvs ds ∧ Binds K fd ps ds ∧ ∀ Hf, Reps K Hf dds dvs) ∧ PySem.W.keepIn K (.ref (He.ga K x)) = true ∧ mg x = some (.ref (He.ga K x))
theorem Fn.mono {j k : Nat} {x : Str} {n : Nat} {dds : List Dat} {F : M Sl} (h : Fn P w K mg base j x n dds F) (hj : j ≤ k) : Fn P w K mg base k x n dds F := by
  obtain ⟨fd, ps, h1, h2, h3⟩ := h
  exact ⟨fd, ps, h1, h2.mono hj, h3⟩
/-- a def that is never called -/
theorem FnOk.none {k : Nat} {f : Addr} {fd : FuncData} {ps : List Str} {n : Nat} (hn : ps.length = n) : FnOk P w K mg base (L2N.CX P w) k f fd ps (spD K n fun _ => .bad) :=
  ⟨fun vs H Q E h => by rw [h.1, hn], fun A outer s H args us vs Q E _ _ _ _ h => by obtain ⟨_, _, _, _, p⟩ := h; exact False.elim p⟩
end
section
variable {X : Cx} {W : WX} {np : Nat} {e : Expr} {es : List Expr} {pos p : Pos} {ms : M (List Ai)} {k n : Nat} {F : M Sl} {x : Str} {dds : List Dat}
theorem de_fn (G : Fn X.prog X.w X.K X.mg X.base k x n dds F) (hr : Room k X.A) (hg : Gl X x) (tk : L2N.Takes X W) (ha : DA X W np (e :: es) ms) (hdb : (x == ("__debug__" : Str)) = false := by decide) (he : starEach (e :: es) X.env = (false, eval e X.env) :: starEach es X.env := by rfl) (hpl : (backTo pos (starEach es X.env)).any (·.1) = false := by rfl) :
    DE X W np (.Call (.Name x p) (e :: es) [] pos) (bnd ms fun its => bnd (callF n F (its ++ dds.map .va)) fun r => lft (dRes r)) := by
  obtain ⟨fd, ps, h1, h2, ⟨ds, dvs, h3, h4, h5⟩, h6, h7⟩ := G
  exact de_call h2 hr hg h7 h6 h4 h3 h5 tk ha hdb he hpl
theorem do_fn (G : Fn X.prog X.w X.K X.mg X.base k x n dds F) (hr : Room k X.A) (hg : Gl X x) (tk : L2N.Takes X W) (ha : DA X W np (e :: es) ms) (hdb : (x == ("__debug__" : Str)) = false := by decide) (he : starEach (e :: es) X.env = (false, eval e X.env) :: starEach es X.env := by rfl) (hpl : (backTo pos (starEach es X.env)).any (·.1) = false := by rfl) :
    DO X W np (.Call (.Name x p) (e :: es) [] pos) (bnd ms fun its => bnd (callF n F (its ++ dds.map .va)) fun r => lft (oRes r)) := by
  obtain ⟨fd, ps, h1, h2, ⟨ds, dvs, h3, h4, h5⟩, h6, h7⟩ := G
  exact do_call h2 hr hg h7 h6 h4 h3 h5 tk ha hdb he hpl
end
/-! a comprehension that is stored at once -/
section
variable {X : Cx} {W : WX} {np : Nat} {elt tg it : Expr} {ifs : List Expr} {scope : Scope} {own : List (Str × Nat)} {pos spos py : Pos} {mi : M (List Dat)} {fg : Dat → M Unit} {mt : M Bool} {me : M Dat} {i : Nat} {y : Str}
theorem ds_lc (hc : X.calm = true) (hN : X.N.Nodup) (hy : X.N[i]? = some y) (hyl : X.env.scope.names.lookup y = some .local)
    (hsw : swapsWith (.ListComp elt [⟨tg, it, ifs, 0⟩] scope pos) (some (.Name y py)) spos.line X.env = pure true) (hi : DI X W np tg it mi) (ok : BlkOk X.N X.env.scope scope own)
    (hg : ∀ (s : Shared) (H : Hp) (C : Addr) (cl : List (Str × Addr)) (fp : List Addr), DGw (X.blk s H scope (compEnvC scope cl C X.env) fp) np (own.map (·.2)) tg fg)
    (ht : ∀ (s : Shared) (H : Hp) (C : Addr) (cl : List (Str × Addr)) (fp : List Addr), PTs (X.blk s H scope (compEnvC scope cl C X.env) fp) ifs (rdT X.K np W0 mt))
    (he : ∀ (s : Shared) (H : Hp) (C : Addr) (cl : List (Str × Addr)) (fp : List Addr), DE (X.blk s H scope (compEnvC scope cl C X.env) fp) W0 np elt me)
    (hs : ∀ x, foldedSetIterable it X.env x = pure x := by intro _; rfl) :
    DS X W np (.Assign [.Name y py] (.ListComp elt [⟨tg, it, ifs, 0⟩] scope pos) spos) (bnd (bnd mi fun items => mLc (own.map (·.2)) fg mt me items) fun d => sSetO np i d) := by
  refine PS.wk (ps_setLc (i := i) (g := rdGw X.K np (own.map (·.2)) fg) (te := rdE X.K np W0 me) hc hN hy hyl hsw hi ok hg ht he hs) fun E σ H ⟨Hf, η, R, p⟩ => ?_
  refine lc_rd ⟨Hf, η, R, ?_⟩
  unfold bnd at p
  cases z : (bnd mi fun items => mLc (own.map (·.2)) fg mt me items) η with
  | ok d η' =>
    unfold bnd at z
    rw [z] at p
    intro Hf1 H1 σ1 R1 S1 e1 pa n1 n2 o no
    subst e1
    unfold sSetO at p
    by_cases hi : i < np
    · simp only [hi, if_true] at p; exact False.elim p
    · simp only [hi, if_false] at p
      obtain ⟨r2, s2⟩ := Rl.setO1 (np := np) (i := i) R1 hi n2 o no
      exact p Hf1 H1 _ r2 (s2 n1 S1)
  | rs x η' => unfold bnd at z; rw [z] at p; exact p
  | bad => unfold bnd at z; rw [z] at p; exact p
end
/-- a tuple of the written part -/
theorem tupAt_of {K : PySem.W.Frag} {x : Str} {vs : List He.Dv} (h : He.tupB K x vs = true) (H : Hp) : TupAt K H (He.ga K x) (vs.map (He.Dv.v K)) := by
  rcases He.tupB_ok h (fun _ => none) with (q | ⟨o, q⟩) | q
  · cases q
  · cases q
  · exact .inr q

section
variable {X : Cx} {W : WX} {np : Nat} {x : Str} {pos : Pos}
theorem de_gint {i : Int} (h : ∃ t, X.mg x = some (.int i t)) (hg : Gl X x) (hd : (x == ("__debug__" : Str)) = false := by decide) : DE X W np (.Name x pos) (ret (.int i)) := by
  obtain ⟨t, h⟩ := h
  exact de_c (pe_glob hg h (v := .int i) ⟨t, rfl⟩ hd) fun _ => .int
theorem de_gstr {i : Str} (h : ∃ t, X.mg x = some (.str i t)) (hg : Gl X x) (hd : (x == ("__debug__" : Str)) = false := by decide) : DE X W np (.Name x pos) (ret (.str i)) := by
  obtain ⟨t, h⟩ := h
  exact de_c (pe_glob hg h (v := .str i) ⟨t, rfl⟩ hd) fun _ => .str
theorem de_gref {a : Addr} {d : Dat} (h : X.mg x = some (.ref a) ∧ ∀ Hf, Rep X.K Hf d (.ref a)) (hg : Gl X x) (hd : (x == ("__debug__" : Str)) = false := by decide) : DE X W np (.Name x pos) (ret d) :=
  de_c (pe_glob hg h.1 (v := .ref a) rfl hd) h.2
theorem de_ty {n : String} (hm : X.mg x = none) (hv : bootBuiltins x = some (.type n)) (hg : Gl X x) (hn : x ≠ "__name__" := by decide) (hd : (x == ("__debug__" : Str)) = false := by decide) : DE X W np (.Name x pos) (ret (.ty n)) :=
  de_c (pe_bltn hg hm hv (v := .ty n) rfl hn hd) fun _ => .ty
end
section
variable {P : Program} {w : World} {K : PySem.W.Frag} {mg : Str → Option Value} {base : Heap} {x qual : Str} {pa : Arguments} {bd : List Stmt} {sc : Scope} {kws : List (Str × V)} {fd : FuncData} {ps : List Str} {k n : Nat} {F : M Sl}
theorem Fn.mk0 (FD : FunD K x qual pa bd sc [] kws (He.ga K x) fd) (G : FnOk P w K mg base (L2N.CX P w) k (He.ga K x) fd ps (spD K n F)) (hn : ps.length = n) (hm : mg x = some (.ref (He.ga K x)))
    (h : ∀ (kV doc pm : Value) (an : Option Addr) (cdv ct : Value) (us : List Value), us.length = ps.length → bindArgs (PySem.W.fnOf x qual pa bd sc .none kV doc pm an cdv ct) ⟨us, []⟩ = pure (ps.zip us)) : Fn P w K mg base k x n [] F :=
  ⟨fd, ps, hn, G, ⟨[], [], .nil, FD.bindsN h, fun _ => .nil⟩, FD.kp, hm⟩
end
/-! ### the mirrors' words -/
noncomputable abbrev m2 (g : Dat → Dat → Option Dat) (a b : M Dat) : M Dat := bnd a fun x => bnd b fun y => lft (g x y)
noncomputable abbrev c2 (g : Dat → Dat → Option Bool) (a b : M Dat) : M Dat := bnd a fun x => bnd b fun y => bnd (lft (g x y)) fun k => ret (.bl k)
noncomputable abbrev t2 (g : Dat → Dat → Option Bool) (a b : M Dat) : M Bool := bnd a fun x => bnd b fun y => lft (g x y)
noncomputable abbrev ch2 (g g' : Dat → Dat → Option Bool) (a b c : M Dat) : M Dat := bnd a fun x => bnd b fun y => bnd (lft (g x y)) fun k => if k then bnd c fun z => bnd (lft (g' y z)) fun k => ret (.bl k) else ret (.bl false)
noncomputable abbrev tch2 (g g' : Dat → Dat → Option Bool) (a b c : M Dat) : M Bool := bnd a fun x => bnd b fun y => bnd (lft (g x y)) fun k => if k then bnd c fun z => lft (g' y z) else ret false
noncomputable abbrev notE (a : M Dat) : M Dat := bnd a fun x => bnd (lft (dBool x)) fun k => ret (.bl (!k))
noncomputable abbrev andE (a b : M Dat) : M Dat := bnd a fun x => bnd (lft (dBool x)) fun k => if k then b else ret (.bl false)
noncomputable abbrev orE (a b : M Dat) : M Dat := bnd a fun x => bnd (lft (dBool x)) fun k => if k then ret (.bl true) else b
noncomputable abbrev notT (a : M Bool) : M Bool := bnd a fun k => ret (!k)
noncomputable abbrev andT (a b : M Bool) : M Bool := bnd a fun k => if k then b else ret false
noncomputable abbrev orT (a b : M Bool) : M Bool := bnd a fun k => if k then ret true else b
noncomputable abbrev ifE (t : M Bool) (a b : M Dat) : M Dat := bnd t fun k => if k then a else b
noncomputable abbrev ifS (t : M Bool) (a b : M Out) : M Out := bnd t fun k => if k then a else b
noncomputable abbrev valT (a : M Dat) : M Bool := bnd a fun x => lft (dTru x)
noncomputable abbrev b1 (g : List Dat → Option Dat) (a : M Dat) : M Dat := bnd a fun x => lft (g [x])
noncomputable abbrev b2 (g : List Dat → Option Dat) (a b : M Dat) : M Dat := bnd a fun x => bnd b fun y => lft (g [x, y])
noncomputable abbrev me1 (g : Str → Dat → Option Dat) (a b : M Dat) : M Dat := bnd a fun x => bnd (lft (dStr x)) fun s => bnd b fun y => lft (g s y)
noncomputable abbrev ix (a b : M Dat) : M Dat := bnd a fun x => bnd b fun y => lft (dIx x y)
noncomputable abbrev ixv (i : Nat) (b : M Dat) : M Dat := bnd (mPeek i) fun _ => bnd b fun y => bnd (mPeek i) fun x => lft (dIx x y)
noncomputable abbrev sl3 (g : Dat → Option Int → Option Int → Option Dat) (a : M Dat) (l h : M (Option Int)) : M Dat := bnd a fun d => bnd l fun l => bnd h fun h => lft (g d l h)
noncomputable abbrev prt (a : M Dat) : M (Option Int) := bnd a fun d => bnd (lft (dInt d)) fun i => ret (some i)
noncomputable abbrev noPrt : M (Option Int) := ret none
noncomputable abbrev argN : M (List Ai) := ret []
noncomputable abbrev argV (a : M Dat) (r : M (List Ai)) : M (List Ai) := bnd a fun d => bnd r fun l => ret (.va d :: l)
noncomputable abbrev argI (i : Nat) (r : M (List Ai)) : M (List Ai) := bnd (mPeek i) fun _ => bnd r fun l => ret (.io i :: l)
noncomputable abbrev lstD (a : M (List Ai)) : M Dat := bnd a fun l => lft (mkLst l)
noncomputable abbrev tupD (a : M (List Ai)) : M Dat := bnd a fun l => lft (mkTup l)
noncomputable abbrev callE (n : Nat) (F : M Sl) (dds : List Dat) (a : M (List Ai)) : M Dat := bnd a fun l => bnd (callF n F (l ++ dds.map .va)) fun r => lft (dRes r)
noncomputable abbrev callO (n : Nat) (F : M Sl) (dds : List Dat) (a : M (List Ai)) : M Dat := bnd a fun l => bnd (callF n F (l ++ dds.map .va)) fun r => lft (oRes r)
noncomputable abbrev wlk (g : Dat → Option (List Dat)) (a : M Dat) : M (List Dat) := bnd a fun x => lft (g x)
noncomputable abbrev wlk2 (g : Dat → Dat → Option (List Dat)) (a b : M Dat) : M (List Dat) := bnd a fun x => bnd b fun y => lft (g x y)
noncomputable abbrev lcE (wi : M (List Dat)) (vs : List Nat) (f : Dat → M Unit) (mt : M Bool) (me : M Dat) : M Dat := bnd wi fun l => mLc vs f mt me l
noncomputable abbrev sSetE (i : Nat) (a : M Dat) : M Out := bnd a fun d => sSet i d
noncomputable abbrev sSetOE (np i : Nat) (a : M Dat) : M Out := bnd a fun d => sSetO np i d
noncomputable abbrev sRet (a : M Dat) : M Out := bnd a fun d => ret (.rt d)
noncomputable abbrev sRetO (a : M Dat) : M Out := bnd a fun d => ret (.ro d)
noncomputable abbrev sRetN : M Out := ret (.rt .non)
noncomputable abbrev sExp (a : M Dat) : M Out := bnd a fun _ => ret .nx
noncomputable abbrev sPut (i : Nat) (a b : M Dat) : M Out := bnd a fun v => bnd (mPeek i) fun _ => bnd b fun k => bnd (owSet i (lSet k v)) fun _ => ret .nx
noncomputable abbrev sApp (i : Nat) (a : M Dat) : M Out := bnd (mPeek i) fun y => bnd (lft (isLst y)) fun _ => bnd a fun v => bnd (owSet i (lApp v)) fun _ => ret .nx
noncomputable abbrev sForE (wi : M (List Dat)) (f : Dat → M Unit) (b : M Out) : M Out := bnd wi fun l => mFor f b l
noncomputable abbrev sAsg (f : Dat → M Unit) (a : M Dat) : M Out := bnd a fun d => bnd (f d) fun _ => ret .nx
noncomputable abbrev sNx : M Out := ret .nx
noncomputable abbrev sBk : M Out := ret .bk
noncomputable abbrev sCt : M Out := ret .ct
noncomputable abbrev cI (i : Int) : M Dat := ret (.int i)
noncomputable abbrev cS (s : Str) : M Dat := ret (.str s)
noncomputable abbrev cB (b : Bool) : M Dat := ret (.bl b)
noncomputable abbrev cN : M Dat := ret .non
noncomputable abbrev cT (s : String) : M Dat := ret (.ty s)
noncomputable abbrev cD (d : Dat) : M Dat := ret d
noncomputable abbrev tYes : M Bool := ret true
theorem lenBad2 {i j : Nat} (l : List Dat) (η : En) (h : l.length ≠ 2) : gCons' (gSet i) (gCons' (gSet j) gNil') l η = .bad := by
  match l, h with
  | [], _ => rfl
  | [_], _ => rfl
  | [_, _], h => exact absurd rfl h
  | _ :: _ :: _ :: _, _ => rfl
theorem lenBad3 {i j k : Nat} (l : List Dat) (η : En) (h : l.length ≠ 3) : gCons' (gSet i) (gCons' (gSet j) (gCons' (gSet k) gNil')) l η = .bad := by
  match l, h with
  | [], _ => rfl
  | [_], _ => rfl
  | [_, _], _ => rfl
  | [_, _, _], h => exact absurd rfl h
  | _ :: _ :: _ :: _ :: _, _ => rfl
theorem lenBad4 {i j k m : Nat} (l : List Dat) (η : En) (h : l.length ≠ 4) : gCons' (gSet i) (gCons' (gSet j) (gCons' (gSet k) (gCons' (gSet m) gNil'))) l η = .bad := by
  match l, h with
  | [], _ => rfl
  | [_], _ => rfl
  | [_, _], _ => rfl
  | [_, _, _], _ => rfl
  | [_, _, _, _], h => exact absurd rfl h
  | _ :: _ :: _ :: _ :: _ :: _, _ => rfl
theorem reps_ints {K : PySem.W.Frag} {H : Hp} : ∀ ns : List Int, Reps K H (ns.map .int) (ns.map V.int)
  | [] => .nil
  | _ :: r => .cons .int (reps_ints r)
theorem noX {P : Program} {w : World} {H : Hp} {s s' : Shared} {e : Value} (z : L2N.CX P w [] H s (fun _ _ _ => False) e s') : False := by
  obtain ⟨_, _, _, _, _, _, _, _, _, _, _, _, q⟩ := z
  exact q
end D

namespace D
open PySem L2
section
variable {X : Cx} {W : WX} {np : Nat} {a b c e o : Expr} {es : List Expr} {pos apos cpos pos' : Pos} {ma mb mc : M Dat}
/-! ### d.get(k), d.get(k, x) -/
noncomputable def isDic : Dat → Option Unit
  | .dic _ => some ()
  | _ => none
noncomputable def dGet1 (x y : Dat) : Option Dat := match x with
  | .dic l => (dKey y).map fun k => (valD l k).getD .non
  | _ => none
noncomputable def dGet2 (x y z : Dat) : Option Dat := match x with
  | .dic l => (dKey y).map fun k => (valD l k).getD z
  | _ => none
theorem get_ok {K : PySem.W.Frag} {Hf H : Hp} {l : List (Key × Dat)} {xs : List (Key × V)} {dy z d : Dat} {y u : V} (r : RepK K Hf l xs) (ry : Rep K Hf dy y) (rz : Rep K Hf z u) (h : ((dKey dy).map fun k => (valD l k).getD z) = some d) :
    ∃ k, y = kV k ∧ Rep K Hf d ((valV xs k).getD u) := by
  cases hk : dKey dy with
  | none => rw [hk] at h; cases h
  | some k =>
    rw [hk, Option.map_some] at h
    cases dKey_ok (H := H) (.inl ry) hk
    refine ⟨k, rfl, ?_⟩
    obtain ⟨g1, g2⟩ := r.val k
    cases hv : valD l k with
    | none => rw [g2 hv]; rw [hv] at h; cases h; exact rz
    | some w =>
      obtain ⟨x, hx, hr⟩ := g1 w hv
      rw [hx]; rw [hv] at h; cases h; exact hr
theorem de_get1 (hu : X.A.units + 64 < cLine) (ho : DE X W np o ma) (he : DE X W np e mb) (m : M1 X o "get" apos e cpos) : DE X W np (.Call (.Attribute o "get" apos) [e] [] cpos) (bnd ma fun x => bnd (lft (isDic x)) fun _ => bnd mb fun y => lft (dGet1 x y)) := by
  refine PE.wk (pe_dget1 (by omega) ho he m) fun σ H Q ⟨Hf, η, R, p⟩ => ⟨Hf, η, R, p.bnd fun x Hf1 H1 η1 σ1 R1 S1 p1 e1 v rv => ?_⟩
  subst e1
  obtain ⟨_, hx, p1⟩ := p1.bndL
  unfold isDic at hx
  split at hx
  · rename_i l
    obtain ⟨aa, xs, rfl, h1, h2⟩ := RepP.dic R1.ex (.inl rv)
    refine ⟨aa, rfl, .inl ⟨xs, h1⟩, Hf1, η1, R1, p1.bnd fun y Hf2 H2 η2 σ2 R2 S2 p2 e2 u ru => ?_⟩
    subst e2
    obtain ⟨z, hz, q⟩ := p2.lft R2
    obtain ⟨aa2, xs2, e3, h3, h4⟩ := RepP.dic R2.ex (.inl (rv.mono S2.ef))
    cases e3
    obtain ⟨k, rfl, hr⟩ := get_ok (H := H2) h4 ru .non hz
    exact ⟨_, .inl ⟨_, _, h3, rfl, rfl⟩, q Hf2 H2 (.refl R2.ex) rfl _ hr⟩
  · cases hx
theorem de_get2 (hu : X.A.units + 64 < cLine) (ho : DE X W np o ma) (he : DE X W np e mb) (hf : DE X W np c mc) (m : M2 X o "get" apos e c cpos) : DE X W np (.Call (.Attribute o "get" apos) [e, c] [] cpos) (bnd ma fun x => bnd (lft (isDic x)) fun _ => bnd mb fun y => bnd mc fun z => lft (dGet2 x y z)) := by
  refine PE.wk (pe_dget2 (by omega) ho he hf m) fun σ H Q ⟨Hf, η, R, p⟩ => ⟨Hf, η, R, p.bnd fun x Hf1 H1 η1 σ1 R1 S1 p1 e1 v rv => ?_⟩
  subst e1
  obtain ⟨_, hx, p1⟩ := p1.bndL
  unfold isDic at hx
  split at hx
  · rename_i l
    obtain ⟨aa, xs, rfl, h1, h2⟩ := RepP.dic R1.ex (.inl rv)
    refine ⟨aa, rfl, .inl ⟨xs, h1⟩, Hf1, η1, R1, p1.bnd fun y Hf2 H2 η2 σ2 R2 S2 p2 e2 u ru => ?_⟩
    subst e2
    refine ⟨Hf2, η2, R2, p2.bnd fun t Hf3 H3 η3 σ3 R3 S3 p3 e3 ut rt => ?_⟩
    subst e3
    obtain ⟨z, hz, q⟩ := p3.lft R3
    obtain ⟨aa2, xs2, e4, h3, h4⟩ := RepP.dic R3.ex (.inl ((rv.mono S2.ef).mono S3.ef))
    cases e4
    obtain ⟨k, rfl, hr⟩ := get_ok (H := H3) h4 (ru.mono S3.ef) rt hz
    exact ⟨_, .inl ⟨_, _, h3, rfl, rfl⟩, q Hf3 H3 (.refl R3.ex) rfl _ hr⟩
  · cases hx
/-! ### dict(l), dict(d), list(d) -/
noncomputable def putD (l : List (Key × Dat)) (k : Key) (v : Dat) : List (Key × Dat) := if (l.any fun kv => decide (kv.1 = k)) = true then l.map (fun kv => if kv.1 = k then (kv.1, v) else kv) else l ++ [(k, v)]
noncomputable def mergeD (l more : List (Key × Dat)) : List (Key × Dat) := more.foldl (fun acc kv => putD acc kv.1 kv.2) l
theorem RepK.any {K : PySem.W.Frag} {H : Hp} (k : Key) : ∀ {l : List (Key × Dat)} {xs : List (Key × V)}, RepK K H l xs → (l.any fun kv => decide (kv.1 = k)) = (xs.any fun kv => decide (kv.1 = k))
  | _, _, .nil => rfl
  | _, _, .cons h r => by rw [List.any_cons, List.any_cons, RepK.any k r]
theorem RepK.repl {K : PySem.W.Frag} {H : Hp} (k : Key) {d : Dat} {x : V} (hd : Rep K H d x) : ∀ {l : List (Key × Dat)} {xs : List (Key × V)}, RepK K H l xs → RepK K H (l.map (fun kv => if kv.1 = k then (kv.1, d) else kv)) (xs.map (fun kv => if kv.1 = k then (kv.1, x) else kv))
  | _, _, .nil => .nil
  | (k0, d0) :: l, _, .cons h r => by
    rw [List.map_cons, List.map_cons]
    by_cases e : k0 = k
    · rw [if_pos e, if_pos e]; exact .cons hd (RepK.repl k hd r)
    · rw [if_neg e, if_neg e]; exact .cons h (RepK.repl k hd r)
theorem RepK.snoc {K : PySem.W.Frag} {H : Hp} {k : Key} {d : Dat} {x : V} (hd : Rep K H d x) : ∀ {l : List (Key × Dat)} {xs : List (Key × V)}, RepK K H l xs → RepK K H (l ++ [(k, d)]) (xs ++ [(k, x)])
  | _, _, .nil => .cons hd .nil
  | _, _, .cons h r => .cons h (r.snoc hd)
theorem RepK.put {K : PySem.W.Frag} {H : Hp} {l : List (Key × Dat)} {xs : List (Key × V)} {k : Key} {d : Dat} {x : V} (r : RepK K H l xs) (hd : Rep K H d x) : RepK K H (putD l k d) (putK xs k x) := by
  unfold putD putK
  rw [r.any k]
  split
  · exact r.repl k hd
  · exact r.snoc hd
theorem RepK.merge {K : PySem.W.Frag} {H : Hp} : ∀ {m : List (Key × Dat)} {ys : List (Key × V)} {l : List (Key × Dat)} {xs : List (Key × V)}, RepK K H m ys → RepK K H l xs → RepK K H (mergeD l m) (mergeK xs ys)
  | [], _, _, _, .nil, r => r
  | (k, d) :: m, _, l, _, .cons h q, r => by
    have z := RepK.merge q (r.put (k := k) h)
    exact z
theorem RepK.length {K : PySem.W.Frag} {H : Hp} : ∀ {l : List (Key × Dat)} {xs : List (Key × V)}, RepK K H l xs → l.length = xs.length
  | _, _, .nil => rfl
  | _, _, .cons _ r => congrArg (· + 1) r.length
noncomputable def pairsD : List Dat → Option (List (Key × Dat))
  | [] => some []
  | .tup [k, v] :: l => (dKey k).bind fun k => (pairsD l).map fun r => (k, v) :: r
  | _ :: _ => none
theorem pairs_ok {K : PySem.W.Frag} {Hf H : Hp} (e : Same Hf H) : ∀ {l : List Dat} {vs : List V} {kvs : List (Key × Dat)}, Reps K Hf l vs → pairsD l = some kvs →
    ∃ (ps : List Addr) (ks : List (Key × V)), vs = ps.map V.ref ∧ Paired (fun p kv => SqT K H p [kV kv.1, kv.2]) ps ks ∧ RepK K Hf kvs ks
  | [], _, _, .nil, h => by cases h; exact ⟨[], [], rfl, .nil, .nil⟩
  | d :: l, _, kvs, .cons hd r, h => by
    unfold pairsD at h
    split at h
    · rename_i heq; cases heq
    · rename_i k v l0 heq
      cases heq
      cases hk : dKey k with
      | none => rw [hk] at h; cases h
      | some k' =>
        cases hp : pairsD l with
        | none => rw [hk, hp] at h; cases h
        | some kv' =>
          rw [hk, hp] at h
          cases h
          obtain ⟨ps, ks, rfl, g1, g2⟩ := pairs_ok e r hp
          cases hd with
          | @tup _ aa xs t1 t2 =>
            cases t2 with
            | cons a1 a2 =>
              cases a2 with
              | cons a3 a4 =>
                cases a4
                rename_i x1 x2
                cases dKey_ok (H := H) (.inl a1) hk
                exact ⟨aa :: ps, (k', x2) :: ks, rfl, .cons (t1.mono e).sq g1, .cons a3 g2⟩
    · cases h
noncomputable def dDict : List Dat → Option Dat
  | [.lst l] => (pairsD l).map fun kvs => .dic (mergeD [] kvs)
  | [.dic l] => some (.dic l)
  | _ => none
noncomputable def rDict (K : PySem.W.Frag) : List V → Hp → VK → Prop := fun xs H Q => (∃ (a : Addr) (ps : List Addr) (kvs : List (Key × V)), xs = [.ref a] ∧ SqL K H a (ps.map V.ref) ∧ Paired (fun p kv => SqT K H p [kV kv.1, kv.2]) ps kvs ∧ ∀ p, H p = none → Q (.ref p) (upd H p (.dK (mergeK [] kvs)))) ∨
  ∃ (a : Addr) (kvs : List (Key × V)), xs = [.ref a] ∧ Rd H a (.dK kvs) ∧ ∀ p, H p = none → Q (.ref p) (upd H p (.dK kvs))
theorem call_dict2 (hc : X.calm = true) : CallR X (.type "dict") (rDict X.K) := (call_dictP hc).or call_dictD
theorem dDict_ok {K : PySem.W.Frag} : OpO K (rDict K) dDict := by
  intro Hf H xs ds d e r h Q q
  unfold dDict at h
  split at h
  · obtain ⟨v, rfl, r1⟩ := r.one'
    rename_i l
    cases hp : pairsD l with
    | none => rw [hp] at h; cases h
    | some kvs =>
      rw [hp] at h; cases h
      obtain ⟨a, vs, rfl, h1, h2⟩ := r1.lst e
      obtain ⟨ps, ks, rfl, g1, g2⟩ := pairs_ok e h2 hp
      exact .inl ⟨a, ps, ks, rfl, SqL.of h1, g1, fun p n => q p _ n (same_upd n) ⟨.dic upd_same (g2.merge .nil), nofun⟩⟩
  · obtain ⟨v, rfl, r1⟩ := r.one'
    cases h
    obtain ⟨a, vs, rfl, h1, h2⟩ := r1.dic e
    exact .inr ⟨a, vs, rfl, h1, fun p n => q p _ n (same_upd n) (.dic upd_same h2)⟩
  · cases h
noncomputable def keyD : Key → Dat
  | .inl i => .int i
  | .inr s => .str s
theorem keys_ok {K : PySem.W.Frag} {Hf : Hp} : ∀ {l : List (Key × Dat)} {xs : List (Key × V)}, RepK K Hf l xs → Reps K Hf (l.map fun kv => keyD kv.1) (xs.map fun kv => kV kv.1)
  | _, _, .nil => .nil
  | (k, _) :: _, _, .cons _ r => .cons (by cases k with | inl i => exact .int | inr s => exact .str) (keys_ok r)
noncomputable def rListR : List V → Hp → VK → Prop := fun xs H Q => ∃ p kvs, xs = [.ref p] ∧ Rd H p (.dK kvs) ∧ ∀ q, H q = none → Q (.ref q) (upd H q (.lst (kvs.map fun kv => kV kv.1)))
theorem call_list_rd {X : Cx} (hc : X.calm = true) : CallR X (.type "list") rListR := by
  intro pins s σ H xs us Q I r h
  obtain ⟨p, kvs, e, hk, q⟩ := h
  subst e
  obtain ⟨u, eu, rx⟩ := vals1 r
  subst eu
  obtain rfl : u = Value.ref p := rx
  obtain ⟨z, lo, vs, rk, hd⟩ := dk_rd I.hok hk
  obtain ⟨ep, hat⟩ := hd.dictAt
  have hl : kvs.length = vs.length := Paired.length rk
  refine PySem.W.kdl_call (PySem.W.kdl_dict (knd := mixKind X.prog X.w) (kvs := vs) (ep := ep) lo) (I.ok.hd hc) hat (by rw [← hl]; exact z) fun h' tk acc' c' hkeep hS hacc => ?_
  refine ⟨.ref s.heap.objs.size, upd H s.heap.objs.size (.lst (kvs.map fun kv => kV kv.1)), I.laid hkeep (Nat.le_refl _) (show ObjOk X.prog X.w _ _ _ (.lst (kvs.map fun kv => kV kv.1)) from ⟨?_, acc'.toList, c', ?_, ?_⟩), rfl, q _ (I.hok.fresh (Nat.le_refl _))⟩
  · rw [List.length_map]; exact z
  · have el : acc'.toList.length = acc'.size := by simp
    refine vals_of_at (by rw [List.length_map, el, hacc.1, hl]) fun j x w h1 h2 => ?_
    obtain ⟨k, y, hky, hi⟩ := hacc.2 j w (by rw [← Array.getElem?_toList]; exact h2)
    have e1 : (kvs.map (·.1))[j]? = some k := by
      rw [KV.keys rk, List.getElem?_map, hky] <;> rfl
    have e2 : (kvs.map fun kv => kV kv.1)[j]? = some (kV k) := by
      have e3 : (kvs.map fun kv => kV kv.1) = (kvs.map (·.1)).map kV := by rw [List.map_map] <;> rfl
      rw [e3, List.getElem?_map, e1] <;> rfl
    rw [e2] at h1
    cases h1
    exact keyIs_rel hi
  · rw [Array.toArray_toList]; exact hS
noncomputable def dList2 : List Dat → Option Dat
  | [.dic l] => some (.lst (l.map fun kv => keyD kv.1))
  | ds => dList ds
noncomputable def rList2 (K : PySem.W.Frag) : List V → Hp → VK → Prop := fun xs H Q => (∃ p ys, xs = [.ref p] ∧ (SqL K H p ys ∨ SqT K H p ys) ∧ ∀ l, H l = none → Q (.ref l) (upd H l (.lst ys))) ∨ rListR xs H Q
theorem call_list2 (hc : X.calm = true) : CallR X (.type "list") (rList2 X.K) := call_list_of.or (call_list_rd hc)
theorem dList2_ok {K : PySem.W.Frag} : OpO K (rList2 K) dList2 := by
  intro Hf H xs ds d e r h Q q
  unfold dList2 at h
  split at h
  · obtain ⟨v, rfl, r1⟩ := r.one'
    cases h
    obtain ⟨a, vs, rfl, h1, h2⟩ := r1.dic e
    exact .inr ⟨a, vs, rfl, h1, fun p n => q p _ n (same_upd n) (.lst upd_same (keys_ok h2))⟩
  · exact .inl (dList_ok Hf H xs ds d e r h Q q)
/-! ### int(b), int(i), str(i), str(s) -/
noncomputable def dToInt : List Dat → Option Dat
  | [.int i] => some (.int i)
  | [.bl b] => some (.int (if b then 1 else 0))
  | _ => none
theorem dToInt_ok {K : PySem.W.Frag} : OpC K (fun xs H Q => (∃ i, xs = [.int i] ∧ Q (.int i) H) ∨ ∃ k, xs = [.bl k] ∧ Q (.int (if k then 1 else 0)) H) dToInt := by
  intro Hf H xs ds d e r h Q q
  unfold dToInt at h
  split at h
  · obtain ⟨v, rfl, r1⟩ := r.one'
    cases h; cases r1.int
    exact .inl ⟨_, rfl, q _ Hf H (.refl e) .int⟩
  · obtain ⟨v, rfl, r1⟩ := r.one'
    cases h; cases r1.bl
    exact .inr ⟨_, rfl, q _ Hf H (.refl e) .int⟩
  · cases h
noncomputable def dToStr : List Dat → Option Dat
  | [.int i] => if i.natAbs.log2 < 1920 then some (.str (toString i)) else none
  | _ => none
theorem dToStr_ok {K : PySem.W.Frag} : OpC K (fun xs H Q => ∃ i : Int, xs = [.int i] ∧ i.natAbs.log2 < 1920 ∧ Q (.str (toString i)) H) dToStr := by
  intro Hf H xs ds d e r h Q q
  unfold dToStr at h
  split at h
  · obtain ⟨v, rfl, r1⟩ := r.one'
    split at h
    · rename_i hl; cases h; cases r1.int
      exact ⟨_, rfl, hl, q _ Hf H (.refl e) .str⟩
    · cases h
  · cases h
end
end D

namespace D
open PySem PySem.Spec L2 PyProof.Rows
/-! ### sorted(l), l a list of texts -/
noncomputable def leS (a b : Str) : Bool := !ltCps b.cps.toList a.cps.toList
theorem leS_iff {a b : Str} : leS a b = true ↔ a.cps.toList ≤ b.cps.toList := by
  unfold leS
  rw [ltCps_eq, Bool.not_eq_true', decide_eq_false_iff_not]
  exact Iff.rfl
theorem leS_trans (a b c : Str) (h1 : leS a b = true) (h2 : leS b c = true) : leS a c = true := leS_iff.mpr (List.le_trans (leS_iff.mp h1) (leS_iff.mp h2))
theorem leS_total (a b : Str) : (leS a b || leS b a) = true := by
  rw [Bool.or_eq_true]
  rcases List.le_total a.cps.toList b.cps.toList with h | h
  · exact .inl (leS_iff.mpr h)
  · exact .inr (leS_iff.mpr h)
theorem leS_anti {a b : Str} (h1 : leS a b = true) (h2 : leS b a = true) : a = b := by
  have h := List.le_antisymm (leS_iff.mp h1) (leS_iff.mp h2)
  obtain ⟨a⟩ := a
  obtain ⟨b⟩ := b
  have : a = b := Array.toList_inj.mp h
  rw [this]
theorem pw_rising : ∀ (l : List Str) (p : Str), risingS p l = true → (p :: l).Pairwise fun a b => leS a b = true
  | [], p, _ => List.pairwise_singleton ..
  | x :: r, p, h => by
    unfold risingS at h
    rw [Bool.and_eq_true] at h
    have ih := pw_rising r x h.2
    refine List.Pairwise.cons (fun y hy => ?_) ih
    rcases List.mem_cons.mp hy with rfl | hy
    · exact h.1
    · exact leS_trans _ _ _ h.1 ((List.pairwise_cons.mp ih).1 y hy)
theorem pw_sorted (l : List Str) (h : sortedS l = true) : l.Pairwise fun a b => leS a b = true := by
  cases l with
  | nil => exact .nil
  | cons x r => exact pw_rising r x h
noncomputable def sortS (l : List Str) : List Str := l.mergeSort leS
theorem sortS_perm (l : List Str) : (sortS l).Perm l := List.mergeSort_perm l leS
theorem sortS_pw (l : List Str) : (sortS l).Pairwise fun a b => leS a b = true := List.pairwise_mergeSort leS_trans leS_total l
theorem sortS_uniq {l ys : List Str} (h1 : ys.Perm l) (h2 : sortedS ys = true) : ys = sortS l :=
  List.Perm.eq_of_pairwise (le := fun a b => leS a b = true) (fun a b _ _ => leS_anti) (pw_sorted ys h2) (sortS_pw l) (h1.trans (sortS_perm l).symm)
noncomputable def dSorted : List Dat → Option Dat
  | [.lst l] => (strs' l).bind fun ss => if ss.length < 64 then some (.lst ((sortS ss).map .str)) else none
  | _ => none
theorem strs_at {K : PySem.W.Frag} {H : Hp} : ∀ {l : List Dat} {vs : List V} {ss : List Str}, Reps K H l vs → strs' l = some ss → vs = ss.map V.str
  | _, _, _, .nil, h => by cases h; rfl
  | d :: l, _, ss, .cons hd r, h => by
    cases d <;> first | (cases h; done) | skip
    rename_i s
    cases hd
    have h : (strs' l).map (s :: ·) = some ss := h
    cases hs : strs' l with
    | none => rw [hs] at h; cases h
    | some r' =>
      rw [hs] at h; cases h
      rw [strs_at r hs]; rfl
theorem dSorted_ok {K : PySem.W.Frag} : OpO K (rSortedS K) dSorted := by
  intro Hf H xs ds d e r h Q q
  unfold dSorted at h
  split at h
  · rename_i l
    obtain ⟨v, rfl, r1⟩ := r.one'
    cases hs : strs' l with
    | none => rw [hs] at h; cases h
    | some ss =>
      rw [hs, Option.bind_some] at h
      split at h
      · rename_i hl
        cases h
        obtain ⟨a, vs, rfl, h1, h2⟩ := r1.lst e
        cases strs_at h2 hs
        refine ⟨a, ss, rfl, SqL.of h1, hl, fun ys p hp hy n => ?_⟩
        cases sortS_uniq hp hy
        exact q p _ n (same_upd n) (.lst upd_same (reps_strs _))
      · cases h
  · cases h
/-! ### x.extend(l), d[k] = v -/
section
variable {X : Cx} {W : WX} {np : Nat} {a b c e o i0 : Expr} {es : List Expr} {pos apos cpos pos' : Pos} {ma mb mc : M Dat}
noncomputable def lExt (v : Dat) : Dat → Option Dat
  | .lst l => match v with
    | .lst m => if fits (l.length + m.length) then some (.lst (l ++ m)) else none
    | _ => none
  | _ => none
theorem ds_ext (i : Nat) {x : Str} {px : Pos} (h : PE X (.Name x px) (tVar i)) (hv : DE X W np e ma)
    (hm : ∀ {te : TE}, PE X e te → PE X (.Call (.Attribute (.Name x px) "extend" apos) [e] [] pos') (tBM X.K "list" rExtend (tVar i) (tCons te tNil)))
    (hs : swapsWith (.Call (.Attribute (.Name x px) "extend" apos) [e] [] pos') none pos.line X.env = pure false := by rfl) :
    DS X W np (.Expr (.Call (.Attribute (.Name x px) "extend" apos) [e] [] pos') pos) (bnd (mPeek i) fun y => bnd (lft (isLst y)) fun _ => bnd ma fun v => bnd (owSet i (lExt v)) fun _ => ret .nx) := by
  refine PS.wk (ps_expr (hm hv) hs) fun E σ H ⟨Hf, η, R, p⟩ => ?_
  obtain ⟨y, xv, hx, ry, p2⟩ := p.peek R
  obtain ⟨_, hy, p4⟩ := p2.bndL
  unfold isLst at hy
  split at hy
  · obtain ⟨a0, xs0, rfl, q1, q2⟩ := ry.lst R.ex
    refine ⟨_, hx, .inl ⟨rfl, xs0, SqL.of q1⟩, Hf, η, R, p4.bnd fun d Hf2 H2 η2 σ2 R2 S2 p3 e2 v rv => ?_⟩
    subst e2
    unfold bnd owSet at p3
    split at p3
    · rename_i u η' hu
      split at hu
      · rename_i dd hd
        obtain ⟨aa, Fo, g1, g3, g2⟩ := R2.ow i dd hd
        rw [hx] at g1; cases g1
        split at hu
        · rename_i d' hd'
          cases hu
          unfold lExt at hd'
          split at hd'
          · split at hd'
            · split at hd'
              · rename_i l _ m hf
                cases hd'
                cases rv with
                | lst b1 b2 =>
                  rename_i bb zs
                  cases g3 with
                  | lst k1 k2 =>
                    rename_i xs
                    refine ⟨a0, _, xs, _, rfl, rfl, k1, R2.ex _ _ b1, by rw [← k2.length, ← b2.length]; exact fits_le hf, ?_⟩
                    obtain ⟨r4, s4⟩ := Rl.write (np := np) (u := .lst (xs ++ _)) R2 hd hx (.lst k1 k2) (.lst upd_same (k2.append b2))
                    exact p3 Hf2 _ σ2 r4 s4
              · cases hd'
            · cases hd'
          · cases hd'
        · cases hu
      · cases hu
    · rename_i x0 η' hu
      split at hu
      · split at hu <;> cases hu
      · cases hu
    · exact False.elim p3
  · cases hy
noncomputable def dSet (k v : Dat) : Dat → Option Dat
  | .dic l => (dKey k).bind fun k => if fits l.length then some (.dic (putD l k v)) else none
  | _ => none
theorem ds_dput (hu : X.A.units + 64 < cLine) (i : Nat) {x : Str} {px : Pos} (h : PE X (.Name x px) (tVar i)) (hv : DE X W np e ma) (hk : DE X W np o mb)
    (hs : swapsWith e (some (.Subscript (.Name x px) o pos')) pos.line X.env = pure false := by rfl) :
    DS X W np (.Assign [.Subscript (.Name x px) o pos'] e pos) (bnd ma fun v => bnd (mPeek i) fun _ => bnd mb fun k => bnd (owSet i (dSet k v)) fun _ => ret .nx) := by
  refine PS.wk (ps_dput (by omega) h hk hv hs) fun E σ H ⟨Hf, η, R, p⟩ => ⟨Hf, η, R, p.bnd fun d Hf1 H1 η1 σ1 R1 S1 p1 e1 v rv => ?_⟩
  subst e1
  obtain ⟨y, xv, hx, ry, p2⟩ := p1.peek R1
  refine ⟨_, hx, Hf1, η1, R1, p2.bnd fun dk Hf2 H2 η2 σ2 R2 S2 p3 e2 w rw' => ?_⟩
  subst e2
  unfold bnd owSet at p3
  split at p3
  · rename_i u η' hu'
    split at hu'
    · rename_i dd hd
      obtain ⟨aa, Fo, g1, g3, g2⟩ := R2.ow i dd hd
      rw [hx] at g1; cases g1
      split at hu'
      · rename_i d' hd'
        cases hu'
        unfold dSet at hd'
        split at hd'
        · cases hkk : dKey dk with
          | none => rw [hkk] at hd'; cases hd'
          | some k =>
            rw [hkk, Option.bind_some] at hd'
            split at hd'
            · rename_i l hf
              cases hd'
              cases dKey_ok (H := H2) (.inl rw') hkk
              cases g3 with
              | dic k1 k2 =>
                rename_i xs
                refine ⟨aa, _, rfl, .k k1 (by rw [← k2.length]; exact fits_lt hf), ?_⟩
                obtain ⟨r4, s4⟩ := Rl.write (np := np) (u := .dK (putK xs k v)) R2 hd hx (.dic k1 k2) (.dic upd_same (k2.put (rv.mono S2.ef)))
                exact p3 Hf2 _ σ2 r4 s4
            · cases hd'
        · cases hd'
      · cases hu'
    · cases hu'
  · rename_i x0 η' hu'
    split at hu'
    · split at hu' <;> cases hu'
    · cases hu'
  · exact False.elim p3
end
end D
namespace D
open PySem L2
noncomputable abbrev gt1 (a b : M Dat) : M Dat := bnd a fun x => bnd (lft (isDic x)) fun _ => bnd b fun y => lft (dGet1 x y)
noncomputable abbrev gt2 (a b c : M Dat) : M Dat := bnd a fun x => bnd (lft (isDic x)) fun _ => bnd b fun y => bnd c fun z => lft (dGet2 x y z)
noncomputable abbrev sExt (i : Nat) (a : M Dat) : M Out := bnd (mPeek i) fun y => bnd (lft (isLst y)) fun _ => bnd a fun v => bnd (owSet i (lExt v)) fun _ => ret .nx
noncomputable abbrev sDput (i : Nat) (a b : M Dat) : M Out := bnd a fun v => bnd (mPeek i) fun _ => bnd b fun k => bnd (owSet i (dSet k v)) fun _ => ret .nx
end D

namespace D
open PySem L2
section
variable {X : Cx} {W : WX} {np : Nat} {a b c e o tg : Expr} {es : List Expr} {pos apos cpos pos' p2 : Pos} {ma mb mc : M Dat} {lo hi : Option Expr} {ml mh : M (Option Int)}
/-! ### any slice -/
noncomputable def dCut (d : Dat) (lo hi : Option Int) : Option Dat := match d with
  | .str z => if fits z.length then some (.str (cutS z lo hi)) else none
  | .lst l => some (.lst (cutD l lo hi))
  | .scr l => some (.lst (cutD l lo hi))
  | .tup l => some (.tup (cutD l lo hi))
  | _ => none
theorem de_sl (he : DE X W np e ma) (hl : DPo X W np lo ml) (hh : DPo X W np hi mh) : DE X W np (.Subscript e (.Slice lo hi none p2) pos) (bnd ma fun d => bnd ml fun l => bnd mh fun h => lft (dCut d l h)) := by
  refine PE.wk (pe_slice (sl_str.or (sl_list.or sl_tupA)) he hl hh) fun σ H Q ⟨Hf, η, R, p⟩ => ⟨Hf, η, R, p.bnd fun d Hf1 H1 η1 σ1 R1 S1 p1 e1 v rv => ?_⟩
  subst e1
  refine ⟨Hf1, η1, R1, p1.bnd fun l Hf2 H2 η2 σ2 R2 S2 p2 e2 => ?_⟩
  subst e2
  refine ⟨Hf2, η2, R2, p2.bnd fun u Hf3 H3 η3 σ3 R3 S3 p3 e3 => ?_⟩
  subst e3
  obtain ⟨z, hz, q⟩ := p3.lft R3
  have rv3 := (rv.mono S2.ef).mono S3.ef
  have go : ∀ aa xs l', SqL X.K H3 aa xs → Reps X.K Hf3 l' xs → z = .lst (cutD l' l u) → rSlL X.K (.ref aa) l u H3 Q := fun aa xs l' h1 h2 h3 => by
    subst h3
    refine ⟨aa, xs, rfl, h1, fun pa n => ?_⟩
    have ex := Ext.new (u := .lst (cutV xs l u)) R3.ex n
    exact q _ _ ex rfl _ (.lst upd_same ((cut_ok h2 l u).mono ex.ef))
  unfold dCut at hz
  split at hz
  · split at hz
    · rename_i hf; cases hz; cases rv3
      exact .inl ⟨_, rfl, fits_le hf, q Hf3 H3 (.refl R3.ex) rfl _ .str⟩
    · cases hz
  · cases hz
    cases rv3 with | lst h1 h2 => exact .inr (.inl (go _ _ _ (SqL.of (R3.ex _ _ h1)) h2 rfl))
  · cases hz
    cases rv3 with | scr h1 h2 => exact .inr (.inl (go _ _ _ (R3.ex.seq h1) h2 rfl))
  · rename_i ll
    cases hz
    have rv4 := rv3
    cases rv3 with
    | @tup _ aa xs h1 h2 =>
      refine .inr (.inr ⟨_, _, rfl, (h1.mono R3.ex).sq, fun hw => ?_, fun hw pa n => ?_⟩)
      · have e : cutD ll l u = ll := by
          unfold cutD
          rw [← h2.length] at hw
          rw [hw.1, hw.2, List.drop_zero, Nat.sub_zero, List.take_length]
        rw [e] at q
        exact q Hf3 H3 (.refl R3.ex) rfl _ rv4
      · have ex := Ext.new (u := .tup (cutV xs l u)) R3.ex n
        exact q _ _ ex rfl _ (.tup (.inl upd_same) ((cut_ok h2 l u).mono ex.ef))
  · cases hz
/-! ### any walk -/
noncomputable def dIt : Dat → Option (List Dat)
  | .lst l => some l
  | .scr l => some l
  | .tup l => some l
  | .str s => dItS (.str s)
  | .dic l => some (l.map fun kv => keyD kv.1)
  | _ => none
noncomputable def dItK : Dat → Option (List Dat)
  | .dic l => some (l.map fun kv => keyD kv.1)
  | _ => none
noncomputable def dItV : Dat → Option (List Dat)
  | .dic l => some (l.map (·.2))
  | _ => none
noncomputable def dItI : Dat → Option (List Dat)
  | .dic l => some (l.map fun kv => .tup [keyD kv.1, kv.2])
  | _ => none
theorem RepK.get' {K : PySem.W.Frag} {H : Hp} : ∀ {l : List (Key × Dat)} {xs : List (Key × V)} {i : Nat} {k : Key} {x : V}, RepK K H l xs → xs[i]? = some (k, x) → ∃ d, l[i]? = some (k, d) ∧ Rep K H d x
  | _, _, _, _, _, .nil, e => by simp at e
  | _, _, 0, _, _, .cons h _, e => by simp at e; obtain ⟨e1, e2⟩ := e; subst e1; subst e2; exact ⟨_, rfl, h⟩
  | _, _, i + 1, _, _, .cons _ r, e => by
    obtain ⟨x, h1, h2⟩ := RepK.get' (i := i) r (by simpa using e)
    exact ⟨x, by simpa using h1, h2⟩
theorem rep_key {K : PySem.W.Frag} {H : Hp} (k : Key) : Rep K H (keyD k) (kV k) := by
  cases k with
  | inl i => exact .int
  | inr s => exact .str
section
variable {K : PySem.W.Frag} {Hf : Hp} {a : Addr} {o : Obj} {xs : List (Key × V)} {l : List (Key × Dat)}
theorem walk_keys (h : Hf a = some (.frz o (.dK xs))) (r : RepK K Hf l xs) : Walk K Hf (l.map fun kv => keyD kv.1) (Itk a o xs) where
  go := fun i H e hi => ⟨e _ _ h, by rw [← r.length]; simpa using hi⟩
  stop := fun H e => ⟨e _ _ h, by simp [r.length]⟩
  yld := fun i Hf1 H x H' e1 e2 hi y => by
    obtain ⟨rfl, k, v, h1, rfl⟩ := y
    obtain ⟨d, h2, h3⟩ := r.get' h1
    exact ⟨keyD k, Hf1, by simp [h2], .refl e2, rep_key k⟩
theorem walk_vals (h : Hf a = some (.frz o (.dK xs))) (r : RepK K Hf l xs) : Walk K Hf (l.map (·.2)) (Itd a o xs) where
  go := fun i H e hi => ⟨e _ _ h, by rw [← r.length]; simpa using hi⟩
  stop := fun H e => ⟨e _ _ h, by simp [r.length]⟩
  yld := fun i Hf1 H x H' e1 e2 hi y => by
    obtain ⟨rfl, k, h1⟩ := y
    obtain ⟨d, h2, h3⟩ := r.get' h1
    exact ⟨d, Hf1, by simp [h2], .refl e2, h3.mono e1⟩
theorem walk_items (h : Hf a = some (.frz o (.dK xs))) (r : RepK K Hf l xs) : Walk K Hf (l.map fun kv => .tup [keyD kv.1, kv.2]) (Iti a o xs) where
  go := fun i H e hi => ⟨e _ _ h, by rw [← r.length]; simpa using hi⟩
  stop := fun H e => ⟨e _ _ h, by simp [r.length]⟩
  yld := fun i Hf1 H x H' e1 e2 hi y => by
    obtain ⟨T, k, v, h1, rfl, nT, rfl⟩ := y
    obtain ⟨d, h2, h3⟩ := r.get' h1
    have ex := Ext.new (u := .tup [kV k, v]) e2 nT
    exact ⟨.tup [keyD k, d], _, by simp [h2], ex, .tup (.inl upd_same) (.cons (rep_key k) (.cons (h3.mono (e1.trans ex.ef)) .nil))⟩
end
theorem di_keys (h : DE X W np e ma) : DI X W np tg e (bnd ma fun d => lft (dItK d)) := by
  refine PI.wk (pi_keys h) fun σ H R ⟨Hf, η, R0, p⟩ => ⟨Hf, η, R0, p.bnd fun d Hf1 H1 η1 σ1 R1 S1 p1 e1 v rv => ?_⟩
  subst e1
  obtain ⟨l, hl, q⟩ := p1.lft R1
  cases d <;> first | (cases hl; done) | skip
  cases hl
  cases rv with
  | dic h1 h2 =>
    obtain ⟨o, h1⟩ := h1
    exact ⟨_, o, rfl, .inl ⟨_, R1.ex _ _ h1, q Hf1 H1 (.refl R1.ex) rfl _ (walk_keys h1 h2)⟩⟩
theorem di_vals (h : DE X W np e ma) (hbase : attributeBase e "values" X.env (eval e X.env) = eval e X.env := by rfl) (hline : (apos.endLine == cpos.line) = true := by rfl) : DI X W np tg (.Call (.Attribute e "values" apos) [] [] cpos) (bnd ma fun d => lft (dItV d)) := by
  refine PI.wk (pi_values h hbase hline) fun σ H R ⟨Hf, η, R0, p⟩ => ⟨Hf, η, R0, p.bnd fun d Hf1 H1 η1 σ1 R1 S1 p1 e1 v rv => ?_⟩
  subst e1
  obtain ⟨l, hl, q⟩ := p1.lft R1
  cases d <;> first | (cases hl; done) | skip
  cases hl
  cases rv with
  | dic h1 h2 =>
    obtain ⟨o, h1⟩ := h1
    exact ⟨_, o, _, rfl, R1.ex _ _ h1, q Hf1 H1 (.refl R1.ex) rfl _ (walk_vals h1 h2)⟩
theorem di_items {elts : List Expr} {kk : Nat} {tpos : Pos} (h : DE X W np e ma) (hbase : attributeBase e "items" X.env (eval e X.env) = eval e X.env := by rfl) (hline : (apos.endLine == cpos.line) = true := by rfl) : DI X W np (.Tuple elts kk tpos) (.Call (.Attribute e "items" apos) [] [] cpos) (bnd ma fun d => lft (dItI d)) := by
  refine PI.wk (pi_items h hbase hline) fun σ H R ⟨Hf, η, R0, p⟩ => ⟨Hf, η, R0, p.bnd fun d Hf1 H1 η1 σ1 R1 S1 p1 e1 v rv => ?_⟩
  subst e1
  obtain ⟨l, hl, q⟩ := p1.lft R1
  cases d <;> first | (cases hl; done) | skip
  cases hl
  cases rv with
  | dic h1 h2 =>
    obtain ⟨o, h1⟩ := h1
    exact ⟨_, o, _, rfl, R1.ex _ _ h1, q Hf1 H1 (.refl R1.ex) rfl _ (walk_items h1 h2)⟩
theorem PI.or {t t' : TI} (h : PI X tg e t) (h' : PI X tg e t') : PI X tg e (fun σ H R => t σ H R ∨ t' σ H R) := ⟨fun pins s σ H R I q => q.elim (h.run pins s σ H R I) (h'.run pins s σ H R I)⟩
theorem bnd_same {α : Type} {m : M Dat} {f g : Dat → M α} {η : En} (h : ∀ d η', m η = .ok d η' → f d η' = g d η') : bnd m f η = bnd m g η := by
  unfold bnd
  cases e : m η with
  | ok d η' => exact h d η' e
  | rs x η' => rfl
  | bad => rfl
theorem di_any (h : DE X W np e ma) : DI X W np tg e (bnd ma fun d => lft (dIt d)) := by
  refine PI.wk (PI.or (di_list h) (PI.or (di_tup h) (PI.or (di_str h) (di_keys h)))) fun σ H R ⟨Hf, η, R0, p⟩ => ?_
  have key : ∀ g : Dat → Option (List Dat), (∀ d η', ma η = .ok d η' → dIt d = g d) → rdI X.K np W (bnd ma fun d => lft (g d)) σ H R := fun g hg =>
    ⟨Hf, η, R0, by rw [← bnd_same (f := fun d => lft (dIt d)) fun d η' hd => by rw [hg d η' hd]]; exact p⟩
  cases hm : ma η with
  | ok d η' =>
    cases d with
    | tup l => exact .inr (.inl (key dItT fun d' η2 hd => by rw [hm] at hd; cases hd; rfl))
    | str s => exact .inr (.inr (.inl (key dItS fun d' η2 hd => by rw [hm] at hd; cases hd; rfl)))
    | dic s => exact .inr (.inr (.inr (key dItK fun d' η2 hd => by rw [hm] at hd; cases hd; rfl)))
    | _ => exact .inl (key dItL fun d' η2 hd => by rw [hm] at hd; cases hd; rfl)
  | rs x η' => exact .inl (key dItL fun d' η2 hd => by rw [hm] at hd; cases hd)
  | bad => exact .inl (key dItL fun d' η2 hd => by rw [hm] at hd; cases hd)
end
end D

namespace D
open PySem L2
/-! ### a look: what is owned is lent out for one expression -/
noncomputable def frzS : Sl → Sl
  | .ow d => .fr (dfr d)
  | s => s
noncomputable def frz (η : En) : En := η.map frzS
mutual
/-- nothing that can be changed -/
noncomputable def ndk : Dat → Bool
  | .non => true
  | .bl _ => true
  | .int _ => true
  | .str _ => true
  | .ty _ => true
  | .tup l => ndks l
  | _ => false
noncomputable def ndks : List Dat → Bool
  | [] => true
  | d :: l => ndk d && ndks l
end
noncomputable def lookT (m : M Bool) : M Bool := fun η => match m (frz η) with
  | .ok b _ => .ok b η
  | _ => .bad
noncomputable def lookE (m : M Dat) : M Dat := fun η => match m (frz η) with
  | .ok d _ => if ndk d = true then .ok d η else .bad
  | _ => .bad
/-- dict cells -/
noncomputable def IsDk (H : Hp) (b : Addr) : Prop := (∃ xs, H b = some (.dK xs)) ∨ ∃ xs, H b = some (.dT xs)
/-- H1 is H with all dicts among L locked -/
structure Lkd (H H1 : Hp) (L : List Addr) : Prop where
  off : ∀ b, b ∉ L → H1 b = H b
  on : ∀ b ∈ L, ∃ od u, H b = some u ∧ H1 b = some (.frz od u)
/-- given back -/
noncomputable def unl (H H2 : Hp) (L : List Addr) : Hp := fun b => if b ∈ L then H b else H2 b
theorem lock_all {X : Cx} {pins : List (Addr × Obj)} {σ : St} {s : Shared} : ∀ {L : List Addr} {H : Hp}, Inv X pins σ H s → (∀ b ∈ L, IsDk H b) → ∃ H1, Lkd H H1 L ∧ Inv X pins σ H1 s
  | [], H, I, _ => ⟨H, ⟨fun _ _ => rfl, fun b z => nomatch z⟩, I⟩
  | a :: L, H, I, h => by
    obtain ⟨H1, k, I1⟩ := lock_all I (fun b z => h b (List.mem_cons_of_mem _ z))
    by_cases na : a ∈ L
    · exact ⟨H1, ⟨fun b z => k.off b fun y => z (List.mem_cons_of_mem _ y), fun b z => (List.mem_cons.mp z).elim (fun y => by rw [y]; exact k.on a na) (k.on b)⟩, I1⟩
    have e : H1 a = H a := k.off a na
    have main : ∀ u, H a = some u → Mut (some u) → ∃ H1, Lkd H H1 (a :: L) ∧ Inv X pins σ H1 s := fun u hu mu => by
      obtain ⟨od, I2⟩ := I1.lock (e.trans hu) mu
      refine ⟨_, ⟨fun b z => ?_, fun b z => ?_⟩, I2⟩
      · rw [upd_ne (fun y : b = a => z (by rw [y]; exact List.mem_cons_self ..))]
        exact k.off b fun y => z (List.mem_cons_of_mem _ y)
      · by_cases y : b = a
        · subst y; exact ⟨od, u, hu, upd_same⟩
        · rw [upd_ne y]
          exact k.on b ((List.mem_cons.mp z).resolve_left y)
    rcases h a (List.mem_cons_self ..) with ⟨xs, hx⟩ | ⟨xs, hx⟩
    · exact main _ hx trivial
    · exact main _ hx trivial
theorem unlock_all {X : Cx} {pins : List (Addr × Obj)} {σ : St} {s : Shared} {H : Hp} : ∀ {L : List Addr} {H2 : Hp}, Inv X pins σ H2 s → (∀ b ∈ L, ∃ od u, H b = some u ∧ H2 b = some (.frz od u)) → (∀ b ∈ L, ∀ o' u', X.H_0 b ≠ some (.frz o' u')) → Inv X pins σ (unl H H2 L) s
  | [], H2, I, _, _ => by
    have e : unl H H2 [] = H2 := by funext b; unfold unl; rw [if_neg (fun z => nomatch z)]
    rw [e]; exact I
  | a :: L, H2, I, h, n0 => by
    have I1 := unlock_all I (fun b z => h b (List.mem_cons_of_mem _ z)) (fun b z => n0 b (List.mem_cons_of_mem _ z))
    by_cases na : a ∈ L
    · have e : unl H H2 L = unl H H2 (a :: L) := by
        funext b
        unfold unl
        by_cases z : b ∈ L
        · rw [if_pos z, if_pos (List.mem_cons_of_mem _ z)]
        · rw [if_neg z, if_neg fun q => (List.mem_cons.mp q).elim (fun y => z (by rw [y]; exact na)) z]
      rw [← e]; exact I1
    obtain ⟨od, u, h1, h2⟩ := h a (List.mem_cons_self ..)
    have e1 : unl H H2 L a = some (.frz od u) := by unfold unl; rw [if_neg na]; exact h2
    have I2 := I1.unlock e1 (n0 a (List.mem_cons_self ..))
    have e : upd (unl H H2 L) a u = unl H H2 (a :: L) := by
      funext b
      unfold unl upd
      by_cases y : b = a
      · subst y
        rw [if_pos rfl, if_pos (List.mem_cons_self ..)]; exact h1.symm
      · rw [if_neg y]
        show (if b ∈ L then H b else H2 b) = _
        by_cases z : b ∈ L
        · rw [if_pos z, if_pos (List.mem_cons_of_mem _ z)]
        · rw [if_neg z, if_neg fun q => (List.mem_cons.mp q).elim y z]
    rw [← e]; exact I2
/-- what was a dict is not locked from the start -/
theorem dk_free {X : Cx} {pins : List (Addr × Obj)} {σ : St} {s : Shared} {H : Hp} (I : Inv X pins σ H s) {b : Addr} (h : IsDk H b) : ∀ o' u', X.H_0 b ≠ some (.frz o' u') := fun o' u' z => by
  have q := I.base.frzs b o' u' z
  rcases h with ⟨xs, hx⟩ | ⟨xs, hx⟩
  · rw [hx] at q; cases q
  · rw [hx] at q; cases q
noncomputable def lend {α : Type} (t : St → Hp → (α → Hp → Prop) → Prop) : St → Hp → (α → Hp → Prop) → Prop := fun σ H Q => ∃ L : List Addr, (∀ b ∈ L, IsDk H b) ∧ ∀ H1, Lkd H H1 L → t σ H1 fun v H2 => (∀ b ∈ L, H2 b = H1 b) ∧ Q v (unl H H2 L)
variable {X : Cx} {W : WX} {np : Nat} {e : Expr}
theorem pe_lend {t : TE} (h : PE X e t) : PE X e (lend t) := by
  refine ⟨fun pins s σ H Q I ⟨L, hL, q⟩ => ?_⟩
  obtain ⟨H1, k, I1⟩ := lock_all I hL
  refine thn (h.run pins s σ H1 _ I1 (q H1 k)) fun v s1 ⟨x, H2, I2, r, e2, q2⟩ => ?_
  refine ⟨x, _, unlock_all (H := H) I2 (fun b z => ?_) (fun b z => dk_free I (hL b z)), r, q2⟩
  rw [e2 b z]; exact k.on b z
theorem pt_lend {t : TT} (h : PT X e t) : PT X e (lend t) := by
  refine ⟨fun pins s σ H Q I ⟨L, hL, q⟩ => ?_⟩
  obtain ⟨H1, k, I1⟩ := lock_all I hL
  refine thn (h.run pins s σ H1 _ I1 (q H1 k)) fun v s1 ⟨H2, I2, e2, q2⟩ => ?_
  refine ⟨_, unlock_all (H := H) I2 (fun b z => ?_) (fun b z => dk_free I (hL b z)), q2⟩
  rw [e2 b z]; exact k.on b z
/-! ### the slots, lent -/
theorem Lkd.is {H H1 : Hp} {L : List Addr} (k : Lkd H H1 L) (hL : ∀ b ∈ L, IsDk H b) {b : Addr} {u : HO} (h : H b = some u) (n : ∀ xs, u ≠ .dK xs) (n2 : ∀ xs, u ≠ .dT xs) : H1 b = some u := by
  rw [k.off b fun z => ?_]
  · exact h
  · rcases hL b z with ⟨xs, hx⟩ | ⟨xs, hx⟩
    · rw [h] at hx; cases hx; exact n _ rfl
    · rw [h] at hx; cases hx; exact n2 _ rfl
theorem Lkd.dk {H H1 : Hp} {L : List Addr} (k : Lkd H H1 L) {b : Addr} {u : HO} (h : H b = some u) (z : b ∈ L) : ∃ od, H1 b = some (.frz od u) := by
  obtain ⟨od, w, h1, h2⟩ := k.on b z
  rw [h] at h1; cases h1; exact ⟨od, h2⟩
/-- all dicts of F are in L -/
noncomputable def DkIn (H : Hp) (F L : List Addr) : Prop := ∀ b ∈ F, IsDk H b → b ∈ L
section
variable {K : PySem.W.Frag} {Hf H H1 G : Hp} {L : List Addr}
mutual
theorem Tr.lent (k : Lkd H H1 L) (hL : ∀ b ∈ L, IsDk H b) (sf : Same Hf G) : ∀ {F : List Addr} {a : Addr} {d : Dat}, Tr K Hf H F a d → DkIn H F L → (∀ b ∈ F, G b = H1 b) → Rep K G (stripT d) (.ref a)
  | _, _, _, .lst h r n, dk, g => .lst ((g _ (List.mem_cons_self ..)).trans (k.is hL h nofun nofun)) (Pts.lent k hL sf r (fun b z => dk b (List.mem_cons_of_mem _ z)) fun b z => g b (List.mem_cons_of_mem _ z))
  | _, _, _, .tup h r n, dk, g => .tup (.inl (sf _ _ n)) (Pts.lent k hL sf r dk g)
  | _, _, _, .obj h e r n, dk, g => .obj ((g _ (List.mem_cons_self ..)).trans (k.is hL h nofun nofun)) (reps_f e (Pts.lent k hL sf r (fun b z => dk b (List.mem_cons_of_mem _ z)) fun b z => g b (List.mem_cons_of_mem _ z)))
  | _, _, _, .dic h e r n, dk, g => by
    obtain ⟨od, q⟩ := k.dk h (dk _ (List.mem_cons_self ..) (.inl ⟨_, h⟩))
    exact .dic ⟨od, (g _ (List.mem_cons_self ..)).trans q⟩ (reps_k e (Pts.lent k hL sf r (fun b z => dk b (List.mem_cons_of_mem _ z)) fun b z => g b (List.mem_cons_of_mem _ z)))
  | _, _, _, .dit h e r n, dk, g => by
    obtain ⟨od, q⟩ := k.dk h (dk _ (List.mem_cons_self ..) (.inr ⟨_, h⟩))
    exact .dit ⟨od, (g _ (List.mem_cons_self ..)).trans q⟩ (reps_t e (Pts.lent k hL sf r (fun b z => dk b (List.mem_cons_of_mem _ z)) fun b z => g b (List.mem_cons_of_mem _ z)))
  | _, _, _, .ldic ⟨o, h⟩ e r n, dk, g => .dic ⟨o, (g _ (List.mem_cons_self ..)).trans (k.is hL h nofun nofun)⟩ (reps_k e (Pts.lent k hL sf r (fun b z => dk b (List.mem_cons_of_mem _ z)) fun b z => g b (List.mem_cons_of_mem _ z)))
  | _, _, _, .ldit ⟨o, h⟩ e r n, dk, g => .dit ⟨o, (g _ (List.mem_cons_self ..)).trans (k.is hL h nofun nofun)⟩ (reps_t e (Pts.lent k hL sf r (fun b z => dk b (List.mem_cons_of_mem _ z)) fun b z => g b (List.mem_cons_of_mem _ z)))
theorem Pt.lent (k : Lkd H H1 L) (hL : ∀ b ∈ L, IsDk H b) (sf : Same Hf G) : ∀ {F : List Addr} {v : V} {d : Dat}, Pt K Hf H F v d → DkIn H F L → (∀ b ∈ F, G b = H1 b) → Rep K G (stripP d) v
  | _, _, _, .own t, dk, g => Tr.lent k hL sf t dk g
  | _, _, d, .fr r, dk, g => by
    have e : stripP d = d := by cases r <;> rfl
    rw [e]; exact r.mono sf
theorem Pts.lent (k : Lkd H H1 L) (hL : ∀ b ∈ L, IsDk H b) (sf : Same Hf G) : ∀ {F : List Addr} {v : List V} {d : List Dat}, Pts K Hf H F v d → DkIn H F L → (∀ b ∈ F, G b = H1 b) → Reps K G (stripPs d) v
  | _, _, _, .nil, dk, g => .nil
  | _, _, _, .cons h r n, dk, g => .cons (Pt.lent k hL sf h (fun b z => dk b (List.mem_append_left _ z)) fun b z => g b (List.mem_append_left _ z)) (Pts.lent k hL sf r (fun b z => dk b (List.mem_append_right _ z)) fun b z => g b (List.mem_append_right _ z))
end
theorem OwnAt.lent (k : Lkd H H1 L) (hL : ∀ b ∈ L, IsDk H b) (sf : Same Hf G) {F : List Addr} {a : Addr} {d : Dat} (o : OwnAt K Hf H F a d) (dk : DkIn H F L) (g : ∀ b ∈ F, G b = H1 b) : Rep K G (dfr d) (.ref a) := by
  cases o with
  | own t => exact t.lent k hL sf dk g
  | lst h r => exact .lst ((g _ (List.mem_singleton_self _)).trans (k.is hL h nofun nofun)) (r.mono sf)
  | obj h r => exact .obj ((g _ (List.mem_singleton_self _)).trans (k.is hL h nofun nofun)) (r.mono sf)
  | dic h r =>
    obtain ⟨od, q⟩ := k.dk h (dk _ (List.mem_singleton_self _) (.inl ⟨_, h⟩))
    exact .dic ⟨od, (g _ (List.mem_singleton_self _)).trans q⟩ (r.mono sf)
  | dit h r =>
    obtain ⟨od, q⟩ := k.dk h (dk _ (List.mem_singleton_self _) (.inr ⟨_, h⟩))
    exact .dit ⟨od, (g _ (List.mem_singleton_self _)).trans q⟩ (r.mono sf)
end
theorem OwnAt.noTup {K : PySem.W.Frag} {Hf H : Hp} {F : List Addr} {a : Addr} {d : Dat} (o : OwnAt K Hf H F a d) : ∀ b ∈ F, ∀ xs, H b ≠ some (.tup xs) := fun b q xs z => o.kind b q _ z
section
open Classical
variable {K : PySem.W.Frag} {Hf H H1 Hf2 H2 : Hp} {η η2 : En} {σ : St} {L : List Addr}
/-- all that the slots own, as a list -/
theorem own_list (R : Rl K Hf H η σ) : ∃ FF : List Addr, ∀ b, b ∈ FF ↔ Own K Hf H η σ b := by
  have each : ∀ i : Nat, ∃ F : List Addr, ∀ b, b ∈ F ↔ ∃ d a G, η[i]? = some (.ow d) ∧ σ[i]? = some (some (.ref a)) ∧ OwnAt K Hf H G a d ∧ b ∈ G := fun i => by
    by_cases h : ∃ d, η[i]? = some (.ow d)
    · obtain ⟨d, h⟩ := h
      obtain ⟨a, F, h1, h2, _⟩ := R.ow i d h
      refine ⟨F, fun b => ⟨fun z => ⟨d, a, F, h, h1, h2, z⟩, fun ⟨d', a', G, q1, q2, q3, q4⟩ => ?_⟩⟩
      rw [h] at q1; cases q1
      rw [h1] at q2; cases q2
      rw [h2.uniq q3]; exact q4
    · refine ⟨[], fun b => ⟨fun z => (nomatch z), fun q => ?_⟩⟩
      obtain ⟨d, _, _, q, _⟩ := q
      exact absurd ⟨d, q⟩ h
  refine ⟨(List.range η.length).flatMap fun i => choose (each i), fun b => ?_⟩
  rw [List.mem_flatMap]
  constructor
  · rintro ⟨i, _, z⟩
    obtain ⟨d, a, G, q⟩ := (choose_spec (each i) b).mp z
    exact ⟨i, d, a, G, q⟩
  · rintro ⟨i, d, a, G, q1, q⟩
    exact ⟨i, List.mem_range.mpr (List.getElem?_eq_some_iff.mp q1).1, (choose_spec (each i) b).mpr ⟨d, a, G, q1, q⟩⟩
theorem frz_get {η : En} {i : Nat} : (frz η)[i]? = (η[i]?).map frzS := by unfold frz; rw [List.getElem?_map]
theorem frz_ow {η : En} {i : Nat} {d : Dat} : (frz η)[i]? ≠ some (.ow d) := fun h => by
  rw [frz_get] at h
  cases e : η[i]? with
  | none => rw [e] at h; cases h
  | some s => rw [e] at h; cases s <;> cases h
theorem frz_no {Hf : Hp} {b : Addr} : ¬ Own K Hf H (frz η) σ b := fun ⟨i, d, a, F, h, _⟩ => frz_ow h
/-- the frozen heap of a look, and behind it -/
noncomputable def lentH (H1 Hf : Hp) (FF : List Addr) : Hp := fun b => if b ∈ FF then H1 b else Hf b
noncomputable def backH (Hf Hf2 : Hp) (FF : List Addr) : Hp := fun b => if b ∈ FF then Hf b else Hf2 b
/-- the look's start -/
theorem lent_rl {FF : List Addr} (R : Rl K Hf H η σ) (hF : ∀ b, b ∈ FF ↔ Own K Hf H η σ b) (hL : ∀ b ∈ L, IsDk H b) (dk : DkIn H FF L) (k : Lkd H H1 L) (Lo : ∀ b ∈ L, b ∈ FF) : Rl K (lentH H1 Hf FF) H1 (frz η) σ := by
  have n0 : ∀ b ∈ FF, Hf b = none := fun b hb => by
    obtain ⟨i, d, a, F, h1, h2, h3, h4⟩ := (hF b).mp hb
    obtain ⟨a', G, q1, q2, q3⟩ := R.ow i d h1
    rw [h2] at q1; cases q1
    rw [h3.uniq q2] at h4
    exact q3 b h4
  have sf : Same Hf (lentH H1 Hf FF) := fun b o h => by
    unfold lentH
    rw [if_neg fun z => by rw [n0 b z] at h; cases h]; exact h
  refine ⟨fun b o h => ?_, by unfold frz; rw [List.length_map]; exact R.len, fun i d h => ?_, fun i d h => absurd h frz_ow, fun i j d e a b F G c h => absurd h frz_ow⟩
  · unfold lentH at h
    by_cases z : b ∈ FF
    · rw [if_pos z] at h; exact h
    · rw [if_neg z] at h
      rw [k.off b fun y => z (Lo b y)]
      exact R.ex _ _ h
  · rw [frz_get] at h
    cases e : η[i]? with
    | none => rw [e] at h; cases h
    | some s =>
      rw [e] at h
      cases s with
      | no => cases h
      | fr d' =>
        cases h
        obtain ⟨v, h1, h2⟩ := R.fr i d e
        exact ⟨v, h1, h2.mono sf⟩
      | ow d' =>
        cases h
        obtain ⟨a, F, h1, h2, h3⟩ := R.ow i d' e
        have inF : ∀ b ∈ F, b ∈ FF := fun b hb => (hF b).mpr ⟨i, d', a, F, e, h1, h2, hb⟩
        exact ⟨_, h1, h2.lent k hL sf (fun b hb => dk b (inF b hb)) fun b hb => by unfold lentH; rw [if_pos (inF b hb)]⟩
/-- given back -/
theorem lent_back {FF : List Addr} {np : Nat} (R : Rl K Hf H η σ) (hF : ∀ b, b ∈ FF ↔ Own K Hf H η σ b) (hL : ∀ b ∈ L, IsDk H b) (k : Lkd H H1 L) (Lo : ∀ b ∈ L, b ∈ FF) (R2 : Rl K Hf2 H2 η2 σ) (S : Stp K np (lentH H1 Hf FF) H1 (frz η) σ Hf2 H2 η2 σ) :
    (∀ b ∈ L, H2 b = H1 b) ∧ Rl K (backH Hf Hf2 FF) (unl H H2 L) η σ ∧ Stp K np Hf H η σ (backH Hf Hf2 FF) (unl H H2 L) η σ ∧ ∀ b ∈ FF, Hf2 b = H1 b := by
  have n0 : ∀ b ∈ FF, Hf b = none := fun b hb => by
    obtain ⟨i, d, a, F, h1, h2, h3, h4⟩ := (hF b).mp hb
    obtain ⟨a', G, q1, q2, q3⟩ := R.ow i d h1
    rw [h2] at q1; cases q1
    rw [h3.uniq q2] at h4
    exact q3 b h4
  have k1 : ∀ b o, H1 b = some o → H2 b = some o := fun b o h => S.fr b o h frz_no
  have onL : ∀ b ∈ L, H2 b = H1 b := fun b hb => by
    obtain ⟨od, u, h1, h2⟩ := k.on b hb
    rw [k1 _ _ h2, h2]
  have kk : ∀ b o, H b = some o → unl H H2 L b = some o := fun b o h => by
    unfold unl
    by_cases z : b ∈ L
    · rw [if_pos z]; exact h
    · rw [if_neg z]; exact k1 b o (by rw [k.off b z]; exact h)
  have sf : Same Hf (backH Hf Hf2 FF) := fun b o h => by
    unfold backH
    rw [if_neg fun z => by rw [n0 b z] at h; cases h]
    refine S.ef b o ?_
    unfold lentH
    rw [if_neg fun z => by rw [n0 b z] at h; cases h]; exact h
  have sx : Same (backH Hf Hf2 FF) (unl H H2 L) := fun b o h => by
    unfold backH at h
    by_cases z : b ∈ FF
    · rw [if_pos z] at h; exact kk _ _ (R.ex _ _ h)
    · rw [if_neg z] at h
      unfold unl
      rw [if_neg fun y => z (Lo b y)]
      exact R2.ex _ _ h
  have onF : ∀ b ∈ FF, Hf2 b = H1 b := fun b hb => by
    obtain ⟨u, hu⟩ := ((hF b).mp hb).there
    have hq : ∃ w, H1 b = some w := by
      by_cases z : b ∈ L
      · obtain ⟨od, u', _, h2⟩ := k.on b z; exact ⟨_, h2⟩
      · exact ⟨u, by rw [k.off b z]; exact hu⟩
    obtain ⟨w, hw⟩ := hq
    rw [hw]
    refine S.ef b w ?_
    unfold lentH
    rw [if_pos hb]; exact hw
  have now : ∀ i d a F, η[i]? = some (Sl.ow d) → σ[i]? = some (some (V.ref a)) → OwnAt K (backH Hf Hf2 FF) (unl H H2 L) F a d → OwnAt K Hf H F a d := fun i d a F h1 h2 h3 => R.ownNow sf sx h1 h2 h3 fun G o b _ u hu => kk b u hu
  refine ⟨onL, ⟨sx, R.len, fun i d h => ?_, fun i d h => ?_, fun i j d e a b F G c h1 h2 h3 h4 h5 h6 => R.ap i j d e a b F G c h1 h2 h3 h4 (now i d a F h1 h3 h5) (now j e b G h2 h4 h6)⟩, ⟨sf, fun b o h _ => kk b o h, fun b h => ?_, fun b ⟨i, d, a, F, h1, h2, h3, h4⟩ => .inl ⟨i, d, a, F, h1, h2, now i d a F h1 h2 h3, h4⟩, fun b o h => ?_, fun _ d _ h => ⟨⟨d, h⟩, rfl⟩⟩, onF⟩
  · obtain ⟨v, h1, h2⟩ := R.fr i d h
    exact ⟨v, h1, h2.mono sf⟩
  · obtain ⟨a, F, h1, h2, h3⟩ := R.ow i d h
    refine ⟨a, F, h1, h2.mono sf sx fun b _ u hu => kk b u hu, fun b hb => ?_⟩
    unfold backH
    rw [if_pos ((hF b).mpr ⟨i, d, a, F, h, h1, h2, hb⟩)]; exact h3 b hb
  · unfold unl at h
    by_cases z : b ∈ L
    · rw [if_pos z] at h; exact h
    · rw [if_neg z] at h
      have := S.nn b h
      rwa [k.off b z] at this
  · unfold backH at h
    by_cases z : b ∈ FF
    · rw [if_pos z] at h; exact .inl h
    · rw [if_neg z] at h
      rcases S.nf b o h with q | q | q
      · unfold lentH at q
        rw [if_neg z] at q; exact .inl q
      · refine .inr (.inl ?_)
        rwa [k.off b fun y => z (Lo b y)] at q
      · exact absurd q frz_no
/-- what is owned is no tuple -/
theorem own_notup {b : Addr} (h : Own K Hf H η σ b) (k : Lkd H H1 L) (xs : List V) : H1 b ≠ some (.tup xs) := fun z => by
  obtain ⟨i, d, a, F, _, _, o, hb⟩ := h
  have n := o.noTup b hb
  by_cases y : b ∈ L
  · obtain ⟨od, u, _, h2⟩ := k.on b y
    rw [z] at h2; cases h2
  · rw [k.off b y] at z; exact n xs z
mutual
theorem ndk_rep {FF : List Addr} (nt : ∀ b ∈ FF, ∀ xs, Hf2 b ≠ some (.tup xs)) : ∀ (d : Dat) (v : V), Rep K Hf2 d v → ndk d = true → Rep K (backH Hf Hf2 FF) d v
  | .non, _, .non, _ => .non
  | .bl _, _, .bl, _ => .bl
  | .int _, _, .int, _ => .int
  | .str _, _, .str, _ => .str
  | .ty _, _, .ty, _ => .ty
  | .tup l, _, .tup (a := a) (xs := xs) h r, q => .tup (h.elim (fun h => .inl (by
    unfold backH
    rw [if_neg fun z => nt a z xs h]; exact h)) .inr) (ndks_rep nt l _ r q)
theorem ndks_rep {FF : List Addr} (nt : ∀ b ∈ FF, ∀ xs, Hf2 b ≠ some (.tup xs)) : ∀ (d : List Dat) (v : List V), Reps K Hf2 d v → ndks d = true → Reps K (backH Hf Hf2 FF) d v
  | [], _, .nil, _ => .nil
  | d :: l, _, .cons h r, q => .cons (ndk_rep nt d _ h (Bool.and_eq_true_iff.mp q).1) (ndks_rep nt l _ r (Bool.and_eq_true_iff.mp q).2)
end
/-- a look, step by step -/
theorem look_rd {α : Type} {np : Nat} {W : WX} {m : M α} {η : En} {P : α → Hp → Hp → St → Prop} (R : Rl K Hf H η σ) (ok : ∃ a η', m (frz η) = .ok a η')
    (p : ∀ a η', m (frz η) = .ok a η' → ∀ Hf2 H2, Rl K Hf2 H2 η σ → Stp K np Hf H η σ Hf2 H2 η σ → ∀ Hf1 FF, Hf2 = backH Hf Hf1 FF → (∀ b ∈ FF, ∀ xs, Hf1 b ≠ some (.tup xs)) → P a Hf1 H2 σ) :
    ∃ L : List Addr, (∀ b ∈ L, IsDk H b) ∧ ∀ H1, Lkd H H1 L → ∃ Hf', Rl K Hf' H1 (frz η) σ ∧ Pst K np W Hf' H1 (frz η) σ (fun a Hf2 H2 _ σ' => σ' = σ → (∀ b ∈ L, H2 b = H1 b) ∧ P a Hf2 (unl H H2 L) σ) (m (frz η)) := by
  obtain ⟨FF, hF⟩ := own_list R
  refine ⟨FF.filter fun b => decide (IsDk H b), fun b hb => of_decide_eq_true (List.mem_filter.mp hb).2, fun H1 k => ?_⟩
  have Lo : ∀ b ∈ FF.filter fun b => decide (IsDk H b), b ∈ FF := fun b hb => (List.mem_filter.mp hb).1
  have hL : ∀ b ∈ FF.filter fun b => decide (IsDk H b), IsDk H b := fun b hb => of_decide_eq_true (List.mem_filter.mp hb).2
  have dk : DkIn H FF (FF.filter fun b => decide (IsDk H b)) := fun b hb q => List.mem_filter.mpr ⟨hb, decide_eq_true q⟩
  refine ⟨_, lent_rl R hF hL dk k Lo, ?_⟩
  obtain ⟨a, η', hm⟩ := ok
  rw [hm]
  intro Hf2 H2 σ' R2 S2 e2
  subst e2
  obtain ⟨g1, g2, g3, g4⟩ := lent_back R hF hL k Lo R2 S2
  exact ⟨g1, p a η' hm _ _ g2 g3 Hf2 FF rfl fun b hb xs z => own_notup ((hF b).mp hb) k xs (by rw [← g4 b hb]; exact z)⟩
variable {X : Cx} {W : WX} {np : Nat} {e : Expr}
theorem dt_look {m : M Bool} (h : DT X W np e m) : DT X W np e (lookT m) := by
  refine PT.wk (pt_lend h) fun σ H Q ⟨Hf, η, R, p⟩ => ?_
  unfold lookT at p
  cases hm : m (frz η) with
  | ok b η2 =>
    rw [hm] at p
    obtain ⟨L, hL, q⟩ := look_rd (np := np) (W := W) (P := fun a _ H2 σ' => Q a H2) R ⟨b, η2, hm⟩ fun a η' e Hf2 H2 R2 S2 _ _ _ _ => by
      rw [hm] at e; cases e
      exact p Hf2 H2 σ R2 S2 rfl
    exact ⟨L, hL, fun H1 k => by
      obtain ⟨Hf', r, q⟩ := q H1 k
      exact ⟨Hf', frz η, r, q⟩⟩
  | rs x η2 => rw [hm] at p; exact False.elim p
  | bad => rw [hm] at p; exact False.elim p
theorem de_look {m : M Dat} (h : DE X W np e m) : DE X W np e (lookE m) := by
  refine PE.wk (pe_lend h) fun σ H Q ⟨Hf, η, R, p⟩ => ?_
  unfold lookE at p
  cases hm : m (frz η) with
  | ok d η2 =>
    rw [hm] at p
    by_cases hn : ndk d = true
    · simp only [if_pos hn] at p
      obtain ⟨L, hL, q⟩ := look_rd (np := np) (W := W) (P := fun a Hf1 H2 σ' => ∀ v, Rep X.K Hf1 a v → Q v H2) R ⟨d, η2, hm⟩ fun a η' e Hf2 H2 R2 S2 Hf1 FF e2 nt v rv => by
        rw [hm] at e; cases e
        exact p Hf2 H2 σ R2 S2 rfl v (by rw [e2]; exact ndk_rep nt d v rv hn)
      exact ⟨L, hL, fun H1 k => by
        obtain ⟨Hf', r, q⟩ := q H1 k
        refine ⟨Hf', frz η, r, ?_⟩
        rw [hm] at q ⊢
        exact fun Hf2 H2 σ' r2 s2 e2 v rv => ⟨(q Hf2 H2 σ' r2 s2 e2).1, (q Hf2 H2 σ' r2 s2 e2).2 v rv⟩⟩
    · simp only [if_neg hn] at p; exact False.elim p
  | rs x η2 => rw [hm] at p; exact False.elim p
  | bad => rw [hm] at p; exact False.elim p
end
end D

namespace D
open PySem L2 PyProof.Rows PySem.W
/-! ### a, *b = e -/
section
variable {prog : Program} {w : World} {A : Around} {E : Value → Shared → Prop} {s : Shared}
theorem star_tup {l : Addr} {items : Array Value} {i : Nat} {Q : List Value → Shared → Prop} (hl : IsTup s.heap l items) (hh : A.handled = none) (hi : i ≤ items.size) (hz : items.size ≤ sizeLine)
    (h : ∀ h' tk, Heap.ExtBut s.heap.objs.size s.heap h' → wpAny (model prog w) A (newList (items.toList.drop i) >>= fun d => pure (items.toList.take i ++ [d])) Q E { s with heap := h', toks := tk }) : wpAny (model prog w) A (unpackItems (.ref l) (i + 1) (some i)) Q E s := by
  have hll : l < s.heap.objs.size := by obtain ⟨o, ho, _⟩ := hl; exact Heap.lt_size ho
  have hne : l ≠ s.heap.objs.size := Nat.ne_of_lt hll
  unfold unpackItems; refine wpAny_bind ?_
  unfold notIterableAtAll; refine wpAny_bind (wpAny_specialOf hl.typeIs slot_tuple_iter.lookup (wpAny_pure ?_))
  rw [if_neg Bool.false_ne_true]
  refine wpAny_bind (wpAny_holding (iter_tuple hl (wpAny_bind (wpAny_holding (draw_tuple hne i 0 _ _ ⟨_, Heap.get?_push_size _ rfl, rfl, rfl⟩ (hl.push _) (by omega) fun h1 it1 sb1 => ?_)))))
  have hl1 : IsTup h1 l items := IsTup.extBut (hl.push _) sb1.extBut hne
  rw [Nat.zero_add] at it1
  have il : s.heap.objs.size < h1.objs.size := by obtain ⟨oi, hoi, _⟩ := id it1; exact Heap.lt_size hoi
  have ll : l < h1.objs.size := by obtain ⟨ol, hol, _⟩ := id hl1; exact Heap.lt_size hol
  have hfl : (items.toList.take i).length = i := by rw [List.length_take, Array.length_toList]; omega
  rw [List.drop_zero, if_neg (show ¬ ((items.toList.take i).length < i) by rw [hfl]; omega)]
  refine wpAny_bind (wpAny_holding (kun_collect (s := { s with heap := h1 }) (T := "tuple_iterator") (.inr (.inr (.inr rfl))) (Walks.tuple (A := A.in1) hh s.heap.objs.size l hne items) (fun j u st => st.1.typeIs) (k := i) hi ⟨it1, hl1⟩ il ll (fun h2 tk hk => ?_) hz))
  have ez : i + 1 - 1 - i = 0 := by omega
  have hq := h h2 tk fun b o hb e => hk b o hb (sb1.extBut b o hb (Heap.get?_push_of_some _ e))
  simp only [ez, Nat.sub_zero, Nat.not_lt_zero, if_false, List.take_length, List.drop_length, List.append_nil] at hq ⊢
  exact hq
theorem star_lst {l : Addr} {items : Array Value} {i : Nat} {Q : List Value → Shared → Prop} (hl : s.heap.IsList l items) (hh : A.handled = none) (hi : i ≤ items.size) (hz : items.size ≤ sizeLine)
    (h : ∀ h' tk, Heap.ExtBut s.heap.objs.size s.heap h' → wpAny (model prog w) A (newList (items.toList.drop i) >>= fun d => pure (items.toList.take i ++ [d])) Q E { s with heap := h', toks := tk }) : wpAny (model prog w) A (unpackItems (.ref l) (i + 1) (some i)) Q E s := by
  have hll : l < s.heap.objs.size := by obtain ⟨o, ho, _⟩ := hl; exact Heap.lt_size ho
  have hne : l ≠ s.heap.objs.size := Nat.ne_of_lt hll
  unfold unpackItems; refine wpAny_bind ?_
  unfold notIterableAtAll; refine wpAny_bind (wpAny_specialOf hl.typeIs slot_list_iter.lookup (wpAny_pure ?_))
  rw [if_neg Bool.false_ne_true]
  refine wpAny_bind (wpAny_holding (wpAny_pyIter_list hl (wpAny_bind (wpAny_holding (kun_draw hne i 0 _ _ ⟨_, Heap.get?_push_size _ rfl, rfl, rfl⟩ (hl.push _) (by omega) fun h1 it1 sb1 => ?_)))))
  have hl1 : h1.IsList l items := Heap.IsList.extBut (hl.push _) sb1.extBut hne
  rw [Nat.zero_add] at it1
  have il : s.heap.objs.size < h1.objs.size := by obtain ⟨oi, hoi, _⟩ := id it1; exact Heap.lt_size hoi
  have ll : l < h1.objs.size := by obtain ⟨ol, hol, _⟩ := id hl1; exact Heap.lt_size hol
  have hfl : (items.toList.take i).length = i := by rw [List.length_take, Array.length_toList]; omega
  rw [List.drop_zero, if_neg (show ¬ ((items.toList.take i).length < i) by rw [hfl]; omega)]
  refine wpAny_bind (wpAny_holding (kun_collect (s := { s with heap := h1 }) (T := "list_iterator") (.inr (.inr (.inl rfl))) (Walks.list (A := A.in1) hh s.heap.objs.size l hne items) (fun j u st => st.1.typeIs) (k := i) hi ⟨it1, hl1⟩ il ll (fun h2 tk hk => ?_) hz))
  have ez : i + 1 - 1 - i = 0 := by omega
  have hq := h h2 tk fun b o hb e => hk b o hb (sb1.extBut b o hb (Heap.get?_push_of_some _ e))
  simp only [ez, Nat.sub_zero, Nat.not_lt_zero, if_false, List.take_length, List.drop_length, List.append_nil] at hq ⊢
  exact hq
end
variable {X : Cx} {W : WX} {np : Nat} {pos : Pos}
noncomputable def gStarV (K : PySem.W.Frag) (i : Nat) (t : TGs) : TG := fun v σ H Q => ∃ a xs, v = .ref a ∧ (SqT K H a xs ∨ SqL K H a xs) ∧ i ≤ xs.length ∧ ∀ p, H p = none → t (xs.take i ++ [.ref p]) σ (upd H p (.lst (xs.drop i))) Q
theorem vals_take : ∀ {xs : List V} {us : List Value} (n : Nat), Vals xs us → Vals (xs.take n) (us.take n)
  | _, _, 0, _ => .nil
  | _, _, _ + 1, .nil => .nil
  | _, _, n + 1, .cons h r => .cons h (vals_take n r)
theorem vals_drop : ∀ {xs : List V} {us : List Value} (n : Nat), Vals xs us → Vals (xs.drop n) (us.drop n)
  | _, _, 0, r => r
  | _, _, _ + 1, .nil => .nil
  | _, _, n + 1, .cons _ r => vals_drop n r
theorem vals_app : ∀ {xs ys : List V} {us ws : List Value}, Vals xs us → Vals ys ws → Vals (xs ++ ys) (us ++ ws)
  | _, _, _, _, .nil, r => r
  | _, _, _, _, .cons h q, r => .cons h (vals_app q r)
theorem pg_star {es : List Expr} {k : Nat} {t : TGs} {i : Nat} (hc : X.calm = true) (h : PGs X es t) (hn : (assignEach es X.env).length = i + 1 := by rfl) (hst : (assignEach es X.env).findIdx? (·.1) = some i := by rfl) : PG X (.Tuple es k pos) (gStarV X.K i t) := by
  refine ⟨fun pins s σ H v u Q I r ⟨a, xs, e1, hq, hl, hw⟩ => ?_⟩
  subst e1
  cases r
  rw [assign_Tuple]
  refine wpAny_bind (wpAny_standAt ?_)
  unfold unpack
  rw [hn, hst]
  have fin : ∀ (its : List Value), Vals xs its → xs.length ≤ sizeLine → ∀ (h' : Heap) (tk : Nat), Heap.ExtBut s.heap.objs.size s.heap h' →
      wpAny (model X.prog X.w) X.A (newList (its.drop i) >>= fun d => pure (its.take i ++ [d])) (fun us s' => wpAny (model X.prog X.w) X.A (assignInOrder ((assignEach es X.env).map (·.2)) us) (fun _ s'' => ∃ σ' H', Inv X pins σ' H' s'' ∧ Q σ' H') X.xe s') X.xe { s with heap := h', toks := tk } := by
    intro its rv hz h' tk he
    have I1 : Inv X pins σ H { s with heap := h', toks := tk } := I.kept fun b o e => he b o (Nat.ne_of_lt (Heap.lt_size e)) e
    have hf : H h'.objs.size = none := I1.hok.fresh (Nat.le_refl _)
    have hd : (its.drop i).length ≤ sizeLine := by rw [List.length_drop, ← rv.length]; omega
    have hd2 : (xs.drop i).length ≤ sizeLine := by rw [List.length_drop]; omega
    refine wpAny_bind (wpAny_newList (wpAny_pure ?_) hd)
    refine h.run pins _ σ _ _ _ Q (I1.laid (o := .lst (xs.drop i)) (t' := tk) (fun b u e => Heap.get?_push_of_some _ e) (Nat.le_refl _) ⟨hd2, its.drop i, 0, vals_drop i rv, Heap.get?_push_size _ rfl⟩) (vals_app (vals_take i rv) (.cons (a := V.ref h'.objs.size) rfl .nil)) (hw _ hf)
  rcases hq with hq | hq
  · obtain ⟨its, rv, ht, hz⟩ := I.tuple hq
    exact wpAny_bind (wpAny_holding (star_tup ht (I.ok.hd hc) (by rw [List.size_toArray, ← rv.length]; exact hl) (by rw [List.size_toArray, ← rv.length]; exact hz) (fin its rv hz)))
  · obtain ⟨its, rv, ht, hz⟩ := I.list hq
    exact wpAny_bind (wpAny_holding (star_lst ht.isList (I.ok.hd hc) (by rw [List.size_toArray, ← rv.length]; exact hl) (by rw [List.size_toArray, ← rv.length]; exact hz) (fin its rv hz)))
theorem pgs_starred {e : Expr} {p : Pos} {t : TG} (h1 : PG X e t) (hs : (assignEach [.Starred e p] X.env).map (·.2) = [assign e X.env] := by rfl) : PGs X [.Starred e p] (gCons t gNil) := by
  refine ⟨fun pins s σ H vs us Q I r ⟨v, vr, e1, q⟩ => ?_⟩
  subst e1
  cases r with
  | cons r rr =>
    rw [hs]
    refine assignInOrder_cons (thn (h1.run pins s σ H _ _ _ I r q) fun _ s1 ⟨σ1, H1, I1, en, q1⟩ => ?_)
    subst en
    cases rr
    exact assignInOrder_nil ⟨σ1, H1, I1, q1⟩
/-! the same over mirrors -/
variable {e : Expr} {es : List Expr} {fg : Dat → M Unit} {fgs : List Dat → M Unit}
theorem dgs_starred {p : Pos} (h1 : DG X W np e fg) (hs : (assignEach [.Starred e p] X.env).map (·.2) = [assign e X.env] := by rfl) : DGs X W np [.Starred e p] (gCons' fg gNil') := by
  refine PGs.wk (pgs_starred h1 hs) fun vs σ H Q ⟨Hf, η, ds, R, r, q⟩ => ?_
  cases r with
  | nil => exact False.elim q
  | @cons d x l xs h r =>
    refine ⟨x, xs, rfl, Hf, η, d, R, h, Pst.bnd q fun _ Hf1 H1 η1 σ1 R1 S1 p1 => ?_⟩
    cases r with
    | nil => exact ⟨rfl, p1 Hf1 H1 σ1 R1 .refl⟩
    | cons _ _ => exact False.elim p1
noncomputable def seqOf : Dat → Option (List Dat)
  | .tup l => some l
  | .lst l => some l
  | .scr l => some l
  | _ => none
noncomputable def gStar' (i : Nat) (f : List Dat → M Unit) (d : Dat) : M Unit := bnd (lft (seqOf d)) fun l => if i ≤ l.length then f (l.take i ++ [.lst (l.drop i)]) else stk
theorem seq_at {K : PySem.W.Frag} {Hf H : Hp} {d : Dat} {v : V} {l : List Dat} (e : Same Hf H) (r : Rep K Hf d v) (h : seqOf d = some l) : ∃ a xs, v = .ref a ∧ (SqT K H a xs ∨ SqL K H a xs) ∧ Reps K Hf l xs := by
  cases d <;> first | (cases h; done) | skip
  · cases h
    cases r with
    | tup h1 h2 => exact ⟨_, _, rfl, .inl (h1.mono e).sq, h2⟩
  · cases h
    cases r with
    | lst h1 h2 => exact ⟨_, _, rfl, .inr (.inl (.inl (e _ _ h1))), h2⟩
  · cases h
    cases r with
    | scr h1 h2 => exact ⟨_, _, rfl, .inr (e.seq h1), h2⟩
theorem dg_star {k i : Nat} (hc : X.calm = true) (h : DGs X W np es fgs) (hn : (assignEach es X.env).length = i + 1 := by rfl) (hst : (assignEach es X.env).findIdx? (·.1) = some i := by rfl) : DG X W np (.Tuple es k pos) (gStar' i fgs) := by
  refine PG.wk (pg_star hc h hn hst) fun v σ H Q ⟨Hf, η, d, R, r, p⟩ => ?_
  obtain ⟨l, hl, p⟩ := p.bndL
  obtain ⟨a, xs, rfl, hq, rs⟩ := seq_at R.ex r hl
  by_cases hi : i ≤ l.length
  · rw [if_pos hi] at p
    refine ⟨a, xs, rfl, hq, by rw [← rs.length]; exact hi, fun q hp => ?_⟩
    have ex := Ext.new (u := .lst (xs.drop i)) R.ex hp
    exact ⟨_, η, _, R.ext ex, ((rs.take i).mono ex.ef).append (.cons (.lst upd_same ((rs.drop i).mono ex.ef)) .nil), Pst.after (.ofExt R ex) p⟩
  · rw [if_neg hi] at p
    exact False.elim p
end D

namespace D
open PySem L2
/-! ### is True, is False -/
noncomputable def rIsB2 : R2 := fun x y H Q => ∃ b, y = .bl b ∧ flatV x = true ∧ Q (.bl (decide (x = .bl b))) H
theorem op_isB2 {X : Cx} : OpR X (compareOp .Is) rIsB2 := by
  intro pins s σ H x y v u Q I rx ry h
  obtain ⟨b, rfl, hx, q⟩ := h
  cases (show u = Value.bool b from ry)
  have other : ∀ {v : Value}, plainIs v (.bool b) = true → v ≠ .bool b → x ≠ .bl b → wpAny (model X.prog X.w) X.A (compareOp .Is v (.bool b)) (EP X pins σ Q) X.xe s := fun hp hn hx =>
    wpAny_is_other hp hn ⟨.bl false, H, I, rfl, by rw [decide_eq_false hx] at q; exact q⟩
  cases x with
  | non => cases rx; exact other rfl (fun z => by cases z) (fun z => by cases z)
  | bl a =>
    cases (show v = Value.bool a from rx)
    by_cases e : a = b
    · subst e
      exact wpAny_is_self rfl ⟨.bl true, H, I, rfl, by simpa using q⟩
    · exact other rfl (fun z => e (Value.bool.inj z)) (fun z => e (by cases z; rfl))
  | int i => obtain ⟨t, rfl⟩ := rx; exact other rfl (fun z => by cases z) (fun z => by cases z)
  | str i => obtain ⟨t, rfl⟩ := rx; exact other rfl (fun z => by cases z) (fun z => by cases z)
  | _ => exact absurd hx (by simp [flatV])
noncomputable def dIsB : Dat → Dat → Option Bool
  | .bl a, .bl b => some (decide (a = b))
  | .non, .bl _ => some false
  | .int _, .bl _ => some false
  | .str _, .bl _ => some false
  | _, _ => none
theorem dIsB_ok {K : PySem.W.Frag} : OpB K rIsB2 dIsB := by
  intro Hf H x y dx dy b e rx ry h Q q
  unfold dIsB at h
  split at h
  · cases h; cases rx.bl; cases ry.bl
    rename_i a c
    refine ⟨c, rfl, rfl, ?_⟩
    by_cases z : a = c
    · subst z; simpa using q
    · simpa [z] using q
  · cases h; cases rx.non; cases ry.bl; exact ⟨_, rfl, rfl, by simpa using q⟩
  · cases h; cases rx.int; cases ry.bl; exact ⟨_, rfl, rfl, by simpa using q⟩
  · cases h; cases rx.str; cases ry.bl; exact ⟨_, rfl, rfl, by simpa using q⟩
  · cases h
/-! ### great products -/
noncomputable def Wd (i : Int) : Prop := i.natAbs.log2 < 100000
instance (i : Int) : Decidable (Wd i) := by unfold Wd; infer_instance
noncomputable def dMulW : Dat → Dat → Option Dat
  | .int i, .int j => if Wd i ∧ Wd j then some (.int (i * j)) else none
  | _, _ => none
theorem dMulW_ok {K : PySem.W.Frag} : Op2 K (rI CMulW fun i j => .int (i * j)) dMulW := by
  intro Hf H x y dx dy d e rx ry h Q q
  unfold dMulW at h
  split at h
  · split at h
    · rename_i z; cases h; cases rx.int; cases ry.int
      refine ⟨_, _, rfl, rfl, ?_, q _ Hf H (.refl e) .int⟩
      have z1 := z.1
      have z2 := z.2
      unfold Wd at z1 z2
      unfold CMulW
      omega
    · cases h
  · cases h
/-! ### f-strings -/
section
variable {X : Cx} {W : WX} {np : Nat} {a b c e o tg : Expr} {es : List Expr} {pos apos cpos pos' p2 : Pos} {ma mb mc : M Dat}
noncomputable def dFmt : Dat → Option Dat
  | .str y => if fits y.length then some (.str y) else none
  | .int i => if i.natAbs.log2 < 1920 then some (.str (toString i)) else none
  | _ => none
theorem de_fmt (h : DE X W np e ma) : DE X W np (.FormattedValue e (-1) none pos) (bnd ma fun x => lft (dFmt x)) := by
  refine PE.wk (pe_fmt h) fun σ H Q ⟨Hf, η, R, p⟩ => ⟨Hf, η, R, p.bnd fun d Hf1 H1 η1 σ1 R1 S1 p1 e1 v rv => ?_⟩
  subst e1
  obtain ⟨z, hz, q⟩ := p1.lft R1
  unfold dFmt at hz
  split at hz
  · split at hz
    · rename_i hf; cases hz; cases rv
      exact .inl ⟨_, rfl, fits_le hf, q Hf1 H1 (.refl R1.ex) rfl _ .str⟩
    · cases hz
  · split at hz
    · rename_i hf; cases hz; cases rv
      exact .inr ⟨_, rfl, hf, q Hf1 H1 (.refl R1.ex) rfl _ .str⟩
    · cases hz
  · cases hz
noncomputable def rdJ (K : PySem.W.Frag) (np : Nat) (W : WX) (m : M Str) (σ : St) (H : Hp) (Q : Str → Hp → Prop) : Prop := ∃ Hf η, Rl K Hf H η σ ∧ Pst K np W Hf H η σ (fun s _ H' _ σ' => σ' = σ → Q s H') (m η)
noncomputable def DJ (X : Cx) (W : WX) (np : Nat) (es : List Expr) (f : Str → M Str) : Prop := ∃ ts, PJ X es ts ∧ ∀ acc σ H Q, rdJ X.K np W (f acc) σ H Q → tJs ts acc σ H Q
noncomputable def catS (acc : Str) : Dat → Option Str
  | .str y => if fits (acc.length + y.length) then some (acc ++ y) else none
  | _ => none
theorem dj_nil : DJ X W np [] (fun acc => ret acc) := ⟨[], .nil, fun acc σ H Q ⟨Hf, η, R, p⟩ => p.ret R rfl⟩
theorem dj_cons {f : Str → M Str} (h : DE X W np e ma) (r : DJ X W np es f) : DJ X W np (e :: es) (fun acc => bnd ma fun x => bnd (lft (catS acc x)) f) := by
  obtain ⟨ts, h1, h2⟩ := r
  refine ⟨_ :: ts, .cons h h1, fun acc σ H Q ⟨Hf, η, R, p⟩ => ?_⟩
  refine ⟨Hf, η, R, p.bnd fun d Hf1 H1 η1 σ1 R1 S1 p1 e1 v rv => ?_⟩
  subst e1
  obtain ⟨z, hz, q⟩ := p1.bndL
  unfold catS at hz
  split at hz
  · split at hz
    · rename_i hf; cases hz; cases rv
      exact ⟨_, rfl, by rw [Str.length_append]; exact fits_le hf, h2 _ σ1 H1 Q ⟨Hf1, η1, R1, q⟩⟩
    · cases hz
  · cases hz
theorem de_joined {f : Str → M Str} (h : DJ X W np (a :: b :: es) f) : DE X W np (.JoinedStr (a :: b :: es) pos) (bnd (f Str.empty) fun s => ret (.str s)) := by
  obtain ⟨ts, h1, h2⟩ := h
  refine PE.wk (pe_joined h1) fun σ H Q ⟨Hf, η, R, p⟩ => h2 _ σ H _ ⟨Hf, η, R, p.bnd fun d Hf1 H1 η1 σ1 R1 S1 p1 e1 => ?_⟩
  subst e1
  exact p1.ret R1 rfl _ .str
noncomputable abbrev fmtE (a : M Dat) : M Dat := bnd a fun x => lft (dFmt x)
noncomputable abbrev fjN : Str → M Str := fun acc => ret acc
noncomputable abbrev fjC (a : M Dat) (f : Str → M Str) : Str → M Str := fun acc => bnd a fun x => bnd (lft (catS acc x)) f
noncomputable abbrev fjE (f : Str → M Str) : M Dat := bnd (f Str.empty) fun s => ret (.str s)
end
/-! ### a, b = e1, e2 -/
section
variable {X : Cx} {W : WX} {np : Nat} {a b : Expr} {pos : Pos} {ms : M (List Ai)}
noncomputable abbrev sPar (i j : Nat) (ms : M (List Ai)) : M Out := bnd ms fun its => bnd (lft (vals its)) fun l => bnd (gCons' (gSet i) (gCons' (gSet j) gNil') l) fun _ => ret .nx
theorem ds_par {i j : Nat} {x y : Str} {px py pt : Pos} {kt k2 pt2} (hc : X.calm = true) (hN : X.N.Nodup) (hi : X.N[i]? = some x) (hj : X.N[j]? = some y) (hij : i ≠ j)
    (hx : X.env.scope.names.lookup x = some .local) (hy : X.env.scope.names.lookup y = some .local)
    (hw : swappedStores [.Tuple [.Name x px, .Name y py] kt pt] (.Tuple [a, b] k2 pt2) X.env = pure (some [x, y])) (ha : DA X W np [a, b] ms)
    (hs : swapsWithSole [.Tuple [.Name x px, .Name y py] kt pt] (.Tuple [a, b] k2 pt2) pos.line X.env = pure false := by rfl) :
    DS X W np (.Assign [.Tuple [.Name x px, .Name y py] kt pt] (.Tuple [a, b] k2 pt2) pos) (sPar i j ms) := by
  refine PS.wk (ps_par hc hN hi hj hij hx hy ha hw hs) fun E σ H ⟨Hf, η, R, p⟩ => ⟨Hf, η, R, p.bnd fun its Hf1 H1 η1 σ1 R1 S1 p1 e1 vs rv => ?_⟩
  subst e1
  obtain ⟨l, hl, q⟩ := p1.bndL
  have rp := vals_ok rv hl
  match l, vs, rp, q with
  | [], _, .nil, q => exact False.elim q
  | [d], _, .cons h1 .nil, q => exact False.elim q
  | [d, d2], _, .cons h1 (.cons h2 .nil), q =>
    obtain ⟨r2, s2⟩ := Rl.setF (np := np) (i := i) R1 h1
    obtain ⟨r3, s3⟩ := Rl.setF (np := np) (i := j) r2 h2
    exact ⟨_, _, rfl, q Hf1 H1 _ r3 (s2.trans s3)⟩
  | d :: d2 :: d3 :: l, _, .cons h1 (.cons h2 (.cons h3 _)), q => exact False.elim q
end
end D

namespace D
open PySem L2
/-! ### tables of the module with text keys -/
noncomputable def lkT (l : List (Str × Dat)) (z : Str) : Option Dat := (l.find? fun p => decide (p.1 = z)).map (·.2)
/-- at a: a written table of the entries l -/
structure TabD (K : PySem.W.Frag) (w : World) (a : Addr) (l : List (Str × Dat)) : Prop where
  kd : ∃ es n, KDict K w a es n
  some_ : ∀ z d, lkT l z = some d → ∃ u v, PySem.W.nsIn K a z = some (some u) ∧ RelV v u ∧ ∀ Hf, Rep K Hf d v
  none_ : ∀ z, lkT l z = none → PySem.W.nsIn K a z = some none
section
variable {X : Cx} {W : WX} {np : Nat} {a b c e o tg : Expr} {es : List Expr} {pos apos cpos pos' p2 : Pos} {ma mb mc : M Dat} {x : Str} {t : Addr} {l : List (Str × Dat)}
noncomputable def tIx (l : List (Str × Dat)) : Dat → Option Dat
  | .str z => lkT l z
  | _ => none
noncomputable def tGet (l : List (Str × Dat)) : Dat → Dat → Option Dat
  | .str z, d => some ((lkT l z).getD d)
  | _, _ => none
noncomputable def tIn (l : List (Str × Dat)) : Dat → Option Bool
  | .str z => some (lkT l z).isSome
  | _ => none
/-- the table's own name, then what is done with it -/
theorem pe_tab (hm : X.mg x = some (.ref t)) (hg : Gl X x) (hd : (x == ("__debug__" : Str)) = false := by decide) : PE X (.Name x pos) (tC (.ref t)) := pe_glob hg hm rfl hd
theorem de_tix (T : TabD X.K X.w t l) (hm : X.mg x = some (.ref t)) (hg : Gl X x) (hb : DE X W np b mb) (hs : PlainIx b) (hd : (x == ("__debug__" : Str)) = false := by decide) :
    DE X W np (.Subscript (.Name x pos') b pos) (bnd mb fun y => lft (tIx l y)) := by
  obtain ⟨es, n, kd⟩ := T.kd
  have ix : IxR X (fun x y H Q => ∃ (z : Str) (u0 : Value) (v0 : V), x = .ref t ∧ y = .str z ∧ PySem.W.nsIn X.K t z = some (some u0) ∧ RelV v0 u0 ∧ Q v0 H) := by
    intro value slice pins s σ H x y v u Q I rx ry h hs
    have h0 := h
    obtain ⟨z, u0, v0, rfl, rfl, e, r, q⟩ := h
    have rx' := rx
    cases rx
    exact PyProof.Rows.tail_any (kd_type kd I) PySem.F.slot_dict_getitem.lookup (op_item_kd kd pins s σ H _ _ _ _ Q I rx' ry h0) hs
  refine PE.wk (pe_ix ix (pe_tab hm hg hd) hb hs) fun σ H Q ⟨Hf, η, R, p⟩ => ⟨Hf, η, R, p.bnd fun d Hf1 H1 η1 σ1 R1 S1 p1 e1 v rv => ?_⟩
  subst e1
  obtain ⟨z, hz, q⟩ := p1.lft R1
  unfold tIx at hz
  split at hz
  · cases rv
    obtain ⟨u, v, h1, h2, h3⟩ := T.some_ _ _ hz
    exact ⟨_, u, v, rfl, rfl, h1, h2, q Hf1 H1 (.refl R1.ex) rfl v (h3 Hf1)⟩
  · cases hz
/-- TABLE.get(e, d) -/
noncomputable def tTGet2 (K : PySem.W.Frag) (t : Addr) (ty tx : TE) : TE := fun σ H Q => ty σ H fun y H1 => tx σ H1 fun z H2 => ∃ k : Str, y = .str k ∧ ((∃ u v, PySem.W.nsIn K t k = some (some u) ∧ RelV v u ∧ Q v H2) ∨ (PySem.W.nsIn K t k = some none ∧ Q z H2))
theorem pe_tget2 {es : Array DictEntry} {n : Nat} {ty tx : TE} (kd : KDict X.K X.w t es n) (hm : X.mg x = some (.ref t)) (hg : Gl X x) (he : PE X e ty) (hf : PE X c tx) (m : M2 X (.Name x pos') "get" apos e c cpos) (hd : (x == ("__debug__" : Str)) = false := by decide) :
    PE X (.Call (.Attribute (.Name x pos') "get" apos) [e, c] [] cpos) (tTGet2 X.K t ty tx) := by
  refine ⟨fun pins s σ H Q I h => ?_⟩
  refine wpAny_Call_method m.base m.few m.line PySem.F.plainAttrs_dict PySem.F.slot_dict_get PySem.F.type_dict_get (thn ((pe_tab hm hg hd).run pins s σ H _ I (show tC (.ref t) σ H (fun v H' => v = .ref t ∧ H' = H) from ⟨rfl, rfl⟩)) fun u s1 ⟨x1, H1, I1, rx, ex, eh⟩ => ?_)
  subst ex; subst eh
  obtain rfl : u = Value.ref t := rx
  refine ⟨kd_type kd I1, fun b q => ?_, ?_⟩
  · cases q
    exact ⟨_, I1.kIn _ _ kd.at_, rfl⟩
  rw [m.trees]
  refine Calls.callWith_builtin rfl (Calls.evalArgs_plain (Calls.spliced_cons (thn (he.run pins s1 σ H1 _ I1 h) fun iv s2 ⟨y, H2, I2, ry, q2⟩ =>
    Calls.spliced_cons (thn (hf.run pins s2 σ H2 _ I2 q2) fun fv s3 ⟨z, H3, I3, rz, k, ey, q3⟩ => Calls.spliced_nil ?_))))
  subst ey
  obtain ⟨tk, rfl⟩ := ry
  have mo := PySem.W.mapOf_K (prog := X.prog) (w := X.w) I3.kIn kd.at_ kd.lit
  have go : ∀ (r : Option Value) (v : V), PySem.W.nsIn X.K t k = some r → RelV v (r.getD fv) → Q v H3 → wpAny (model X.prog X.w) X.A (call (.builtin "dict.get") [.ref t, .str k tk, fv]) (EP X pins σ Q) X.xe s3 := fun r v hr rv q => by
    refine call_meetsIn PySem.F.slot_dict_get mo.typeIs PySem.F.entry_dict_get (PySem.F.args_dict_get_3 _ _ _) (meets_dict_get_default (strKind X.prog X.w) t (PySem.strKind_is X.prog X.w k tk) kd.low fv) ⟨_, mo, ?_⟩
    rw [PySem.W.find_K kd.at_ hr]
    exact ⟨v, H3, I3.tok _, rv, q⟩
  rcases q3 with ⟨u, v, h1, h2, h3⟩ | ⟨h1, h2⟩
  · exact go (some u) v h1 h2 h3
  · exact go none z h1 rz h2
theorem de_tget2 (T : TabD X.K X.w t l) (hm : X.mg x = some (.ref t)) (hg : Gl X x) (he : DE X W np e mb) (hf : DE X W np c mc) (m : M2 X (.Name x pos') "get" apos e c cpos) (hd : (x == ("__debug__" : Str)) = false := by decide) :
    DE X W np (.Call (.Attribute (.Name x pos') "get" apos) [e, c] [] cpos) (bnd mb fun y => bnd mc fun z => lft (tGet l y z)) := by
  obtain ⟨es, n, kd⟩ := T.kd
  refine PE.wk (pe_tget2 kd hm hg he hf m hd) fun σ H Q ⟨Hf, η, R, p⟩ => ⟨Hf, η, R, p.bnd fun y Hf1 H1 η1 σ1 R1 S1 p1 e1 v rv => ?_⟩
  subst e1
  refine ⟨Hf1, η1, R1, p1.bnd fun z Hf2 H2 η2 σ2 R2 S2 p2 e2 u ru => ?_⟩
  subst e2
  obtain ⟨r, hr, q⟩ := p2.lft R2
  unfold tGet at hr
  split at hr
  · cases rv
    cases hr
    rename_i k
    refine ⟨k, rfl, ?_⟩
    cases hk : lkT l k with
    | none => rw [hk] at q; exact .inr ⟨T.none_ k hk, q Hf2 H2 (.refl R2.ex) rfl u ru⟩
    | some d =>
      rw [hk] at q
      obtain ⟨u', v', h1, h2, h3⟩ := T.some_ k d hk
      exact .inl ⟨u', v', h1, h2, q Hf2 H2 (.refl R2.ex) rfl v' (h3 Hf2)⟩
  · cases hr
/-- e in TABLE -/
noncomputable def rInT (K : PySem.W.Frag) (t : Addr) (neg : Bool) : R2 := fun x y H Q => ∃ (z : Str) (r : Option Value), x = .str z ∧ y = .ref t ∧ PySem.W.nsIn K t z = some r ∧ Q (.bl (if neg then !r.isSome else r.isSome)) H
theorem dt_tin {x : Str} (T : TabD X.K X.w t l) (hm : X.mg x = some (.ref t)) (hg : Gl X x) (ha : DE X W np a ma) (hmk : behindInMarks .In (.Name x pos') = false) (hd : (x == ("__debug__" : Str)) = false := by decide) :
    DE X W np (.Compare a [.In] [.Name x pos'] pos) (bnd ma fun y => bnd (lft (tIn l y)) fun k => ret (.bl k)) := by
  obtain ⟨es, n, kd⟩ := T.kd
  refine PE.wk (pe_cmpR (op_in_kd kd) ha (pe_tab hm hg hd) hmk) fun σ H Q ⟨Hf, η, R, p⟩ => ⟨Hf, η, R, p.bnd fun y Hf1 H1 η1 σ1 R1 S1 p1 e1 v rv => ?_⟩
  subst e1
  obtain ⟨k, hk, q⟩ := p1.bndL
  unfold tIn at hk
  split at hk
  · cases rv
    cases hk
    rename_i z
    have go : ∀ r, PySem.W.nsIn X.K t z = some r → r.isSome = (lkT l z).isSome → ∃ (z' : Str) (r : Option Value), V.str z = .str z' ∧ V.ref t = .ref t ∧ PySem.W.nsIn X.K t z' = some r ∧ Q (.bl r.isSome) H1 := fun r h1 h2 =>
      ⟨z, r, rfl, rfl, h1, by rw [h2]; exact q.ret R1 rfl _ .bl⟩
    cases hk : lkT l z with
    | none => exact go _ (T.none_ z hk) (by rw [hk]; rfl)
    | some d =>
      obtain ⟨u', v', h1, h2, h3⟩ := T.some_ z d hk
      exact go _ h1 (by rw [hk]; rfl)
  · cases hk
noncomputable abbrev tbIx (l : List (Str × Dat)) (b : M Dat) : M Dat := bnd b fun y => lft (tIx l y)
noncomputable abbrev tbGet (l : List (Str × Dat)) (b c : M Dat) : M Dat := bnd b fun y => bnd c fun z => lft (tGet l y z)
noncomputable abbrev tbIn (l : List (Str × Dat)) (b : M Dat) : M Dat := bnd b fun y => bnd (lft (tIn l y)) fun k => ret (.bl k)
end
/-! ### a displayed dict -/
section
variable {X : Cx} {W : WX} {np : Nat} {k v : Expr} {ks : List (Option Expr)} {vs : List Expr} {pos : Pos} {mk mv : M Dat} {mp : M (List (Dat × Dat))}
inductive RepPr (K : PySem.W.Frag) (Hf : Hp) : List (Dat × Dat) → List (V × V) → Prop where
  | nil : RepPr K Hf [] []
  | cons {a b : Dat} {x y : V} {l : List (Dat × Dat)} {ps : List (V × V)} (h1 : Rep K Hf a x) (h2 : Rep K Hf b y) (r : RepPr K Hf l ps) : RepPr K Hf ((a, b) :: l) ((x, y) :: ps)
noncomputable def rdPr (K : PySem.W.Frag) (np : Nat) (W : WX) (m : M (List (Dat × Dat))) (σ : St) (H : Hp) (Q : List (V × V) → Hp → Prop) : Prop := ∃ Hf η, Rl K Hf H η σ ∧ Pst K np W Hf H η σ (fun ds Hf' H' _ σ' => σ' = σ → ∀ ps, RepPr K Hf' ds ps → Q ps H') (m η)
noncomputable def DPr (X : Cx) (W : WX) (np : Nat) (pos : Pos) (ks : List (Option Expr)) (vs : List Expr) (m : M (List (Dat × Dat))) : Prop := ∃ trs, PPs X pos ks vs trs ∧ ∀ σ H Q, rdPr X.K np W m σ H Q → tPairs trs σ H Q
theorem dpr_nil : DPr X W np pos [] [] (ret []) := ⟨[], pps_nil, fun σ H Q ⟨Hf, η, R, p⟩ => p.ret R rfl [] .nil⟩
theorem dpr_cons (hk : DE X W np k mk) (hv : DE X W np v mv) (r : DPr X W np pos ks vs mp) : DPr X W np pos (some k :: ks) (v :: vs) (bnd mk fun a => bnd mv fun b => bnd mp fun l => ret ((a, b) :: l)) := by
  obtain ⟨trs, h1, h2⟩ := r
  refine ⟨_, pps_cons hk hv h1, fun σ H Q ⟨Hf, η, R, p⟩ => ⟨Hf, η, R, p.bnd fun a Hf1 H1 η1 σ1 R1 S1 p1 e1 x rx => ?_⟩⟩
  subst e1
  refine ⟨Hf1, η1, R1, p1.bnd fun b Hf2 H2 η2 σ2 R2 S2 p2 e2 y ry => ?_⟩
  subst e2
  refine h2 σ2 H2 _ ⟨Hf2, η2, R2, p2.bnd fun l Hf3 H3 η3 σ3 R3 S3 p3 e3 ps rp => ?_⟩
  subst e3
  exact p3.ret R3 rfl _ (.cons ((rx.mono S2.ef).mono S3.ef) (ry.mono S3.ef) rp)
noncomputable def keyed : List (Dat × Dat) → Option (List (Key × Dat))
  | [] => some []
  | (a, b) :: l => (dKey a).bind fun k => (keyed l).map fun r => (k, b) :: r
noncomputable def mkDic (l : List (Dat × Dat)) : Option Dat := if l.length ≤ 15 then (keyed l).map fun kvs => .dic (mergeD [] kvs) else none
theorem keyed_ok {K : PySem.W.Frag} {Hf : Hp} : ∀ {l : List (Dat × Dat)} {ps : List (V × V)} {kvs : List (Key × Dat)}, RepPr K Hf l ps → keyed l = some kvs → ∃ ks : List (Key × V), ps = ks.map (fun kv => (kV kv.1, kv.2)) ∧ RepK K Hf kvs ks ∧ ks.length = l.length
  | _, _, _, .nil, h => by cases h; exact ⟨[], rfl, .nil, rfl⟩
  | (a, b) :: l, _, kvs, .cons h1 h2 r, h => by
    unfold keyed at h
    cases ek : dKey a with
    | none => rw [ek] at h; cases h
    | some k =>
      cases el : keyed l with
      | none => rw [ek, el] at h; cases h
      | some kl =>
        rw [ek, el] at h; cases h
        obtain ⟨ks, e1, e2, e3⟩ := keyed_ok r el
        cases dKey_ok (H := Hf) (.inl h1) ek
        exact ⟨(k, _) :: ks, by rw [e1]; rfl, .cons h2 e2, by rw [List.length_cons, e3]; rfl⟩
theorem do_disp (h : DPr X W np pos ks vs mp) (hall : ks.all (·.isSome) = true) (hl : ks.length = vs.length) (h0 : ks ≠ []) (h15 : ks.length ≤ 15) : DO X W np (.Dict ks vs pos) (bnd mp fun l => lft (mkDic l)) := by
  obtain ⟨trs, h1, h2⟩ := h
  refine PE.wk (pe_disp h1 hall hl h0 h15) fun σ H Q ⟨Hf, η, R, p⟩ pa n => ?_
  have nf : Hf pa = none := R.ex.free n
  have no : ¬ Own X.K Hf H η σ pa := own_none n
  refine h2 σ _ _ ⟨Hf, η, R.updNew (u := .dK []) nf no, ?_⟩
  have SN : Stp X.K np Hf H η σ Hf (upd H pa (.dK [])) η σ := Stp.updNew R nf no .refl n
  have no1 : ¬ Own X.K Hf (upd H pa (.dK [])) η σ pa := fun z => no (Own.ofUpd R nf no z)
  unfold D.bnd at p
  cases em : mp η with
  | bad => rw [em] at p; exact p
  | rs xx η1 => rw [em] at p; exact Pst.after (r := Rs.rs xx η1) SN p
  | ok l η1 =>
    rw [em] at p
    intro Hf1 H1 σ1 R1 S1 e1 ps rp
    subst e1
    have p : Pst X.K np W Hf H η σ1 _ (lft (mkDic l) η1) := p
    unfold lft mkDic at p
    by_cases h15' : l.length ≤ 15
    · rw [if_pos h15'] at p
      cases ek : keyed l with
      | none => rw [ek] at p; exact p.elim
      | some kvs =>
        rw [ek] at p
        obtain ⟨kv, e2, e3, e4⟩ := keyed_ok rp ek
        obtain ⟨c1, c2, c3⟩ := S1.cell upd_same no1 nf
        refine ⟨c1, kv, e2, by omega, ?_⟩
        have rm := RepK.merge e3 (RepK.nil (K := X.K) (H := Hf1))
        exact p Hf1 _ σ1 (R1.updNew c3 c2) ((SN.trans S1).updNew R1 c3 c2 n) rfl pa (.inl n) c3 (.dic upd_same rm) fun z => c2 (Own.ofUpd R1 c3 c2 z)
    · rw [if_neg h15'] at p; exact p.elim
noncomputable abbrev dispE (m : M (List (Dat × Dat))) : M Dat := bnd m fun l => lft (mkDic l)
noncomputable abbrev prN : M (List (Dat × Dat)) := ret []
noncomputable abbrev prC (a b : M Dat) (m : M (List (Dat × Dat))) : M (List (Dat × Dat)) := bnd a fun x => bnd b fun y => bnd m fun l => ret ((x, y) :: l)
theorem do_disp0 : DO X W np (.Dict [] [] pos) (ret (.dic [])) := by
  refine PE.wk pe_dnewK fun σ H Q ⟨Hf, η, R, p⟩ pa n => ?_
  have o : OwnF X.K Hf (upd H pa (.dK [])) pa (.dic []) := .dic upd_same .nil
  obtain ⟨h1, h2, h3⟩ := ownNew R n (same_upd n) o
  exact p Hf _ σ (R.ext h1) (.ofExt R h1) rfl pa (.inl n) h2 o h3
end
/-! ### from what the Hook says -/
theorem lkT_mem {l : List (Str × Dat)} {z : Str} {d : Dat} (h : lkT l z = some d) : (z, d) ∈ l := by
  unfold lkT at h
  obtain ⟨p, h1, h2⟩ := Option.map_eq_some_iff.mp h
  have h3 := List.find?_some h1
  have h4 : p.1 = z := of_decide_eq_true h3
  have h5 := List.mem_of_find?_eq_some h1
  obtain ⟨p1, p2⟩ := p
  cases h4; cases h2; exact h5
theorem lkT_none {l : List (Str × Dat)} {z : Str} (h : lkT l z = none) : z ∉ l.map (·.1) := fun hz => by
  obtain ⟨p, hp, e⟩ := List.mem_map.mp hz
  unfold lkT at h
  have := List.find?_eq_none.mp (Option.map_eq_none_iff.mp h) p hp
  exact this (decide_eq_true e)
noncomputable def datOf : He.Dv → Dat
  | .non => .non
  | .bl b => .bl b
  | .int i => .int i
  | .str s => .str s
  | .glo x => .glo x
  | _ => .non
theorem ns_none {K : PySem.W.Frag} {w : World} {a : Addr} {ks : List Str} {z : Str} (h : He.dicW K a = some (He.keysIn w.params ks)) (hz : z ∉ ks) : PySem.W.nsIn K a z = some none := by
  unfold He.dicW at h
  split at h
  · rename_i c es n sl e
    split at h
    · have h1 := Option.some.inj h
      have key : ∀ x ∈ es.toList, x.key.isStr z = false ∧ x.refKey = false := fun x hx => by
        have hm : He.keyOf x ∈ es.toList.map He.keyOf := List.mem_map.mpr ⟨x, hx, rfl⟩
        rw [h1] at hm
        obtain ⟨k, hk, e2⟩ := List.mem_map.mp hm
        unfold He.keyOf at e2
        split at e2
        · rename_i y tk q
          have e3 := Option.some.inj e2
          have e4 : k = y := (Prod.mk.inj e3).1
          refine ⟨?_, ?_⟩
          · rw [q]
            show (y == z) = false
            rw [← e4]
            exact beq_eq_false_iff_ne.mpr fun zz => hz (zz ▸ hk)
          · unfold DictEntry.refKey
            rw [q]
        · cases e2
      unfold PySem.W.nsIn
      rw [e]
      have f1 : es.toList.find? (fun x => x.key.isStr z) = none := List.find?_eq_none.mpr fun x hx => by rw [(key x hx).1]; exact Bool.false_ne_true
      have f2 : es.toList.any (fun x => x.refKey) = false := List.any_eq_false.mpr fun x hx => by rw [(key x hx).2]; exact Bool.false_ne_true
      simp only [f1, f2]
      rfl
    · cases h
  · cases h
theorem tab_of {K : PySem.W.Frag} {w : World} {a : Addr} {kvs : List (Str × He.Dv)} (h : He.dicW K a = some (He.keysIn w.params (kvs.map (·.1)))) (hv : He.valsB K a kvs = true) (hr : ∀ p ∈ kvs, ∀ Hf, Rep K Hf (datOf p.2) (p.2.v K)) : TabD K w a (kvs.map fun p => (p.1, datOf p.2)) where
  kd := He.dicW_ok h
  some_ := fun z d e => by
    obtain ⟨p, hp, e2⟩ := List.mem_map.mp (lkT_mem e)
    cases e2
    obtain ⟨u, h1, h2⟩ := He.valsB_ok hv hp
    exact ⟨u, _, h1, h2, hr p hp⟩
  none_ := fun z e => by
    refine ns_none h ?_
    have := lkT_none e
    rw [List.map_map] at this
    exact this
theorem tabW {fa : List He.Fa} {fn : List He.DefD} {ts : List He.Tab} {w : World} {K : PySem.W.Frag} (c : He.SaysT fa fn ts w K) (i : Nat) {t : He.Tab} (h : ts[i]? = some t) : He.dicW K (t.1 K) = some (He.keysIn w.params t.2) := by
  have q : (He.obsT fa fn ts K).2[i]? = (He.valT fn ts w).2[i]? := congrArg (fun z : He.AlT => z.2[i]?) c
  unfold He.obsT He.valT at q
  simp only [List.getElem?_map, h, Option.map_some] at q
  exact Option.some.inj q
end D

namespace D
open PySem L2
/-! ### repr(d) of plain data: what is read -/
noncomputable def keyP : Key → PyData
  | .inl i => .int i
  | .inr s => .str s
mutual
noncomputable def toPyD : Dat → Option PyData
  | .non => some .none
  | .bl b => some (.bool b)
  | .int i => some (.int i)
  | .str s => some (.str s)
  | .tup l => (toPyDs l).map .tuple
  | .dic l => (toPyKs l).map .dict
  | .ty _ => none
  | .lst l => (toPyDs l).map .list
  | .scr _ => none
  | .adr _ => none
  | .glo _ => none
  | .obj _ _ => none
  | .exn _ _ _ _ => none
  | .dit _ => none
  | .own _ => none
  | .lck _ => none
noncomputable def toPyDs : List Dat → Option (List PyData)
  | [] => some []
  | d :: l => (toPyD d).bind fun p => (toPyDs l).map fun ps => p :: ps
noncomputable def toPyKs : List (Key × Dat) → Option (List (PyData × PyData))
  | [] => some []
  | (k, d) :: l => (toPyD d).bind fun p => (toPyKs l).map fun ps => (keyP k, p) :: ps
end
section
variable {prog : Program} {w : World} {h₀ : Heap} {a : Addr} {u : Value} {us : List Value} {d : PyData} {ds : List PyData}
/-- a value is read, and can be shown -/
noncomputable def RK (prog : Program) (w : World) (h : Heap) (u : Value) (p : PyData) : Prop := ∃ as, Reads h u p as ∧ (p.showable = true → p.shown.length ≤ sizeLine → ∃ bs, ReadAtMost h p.depth bs ∧ ReprK prog w bs h p.depth u p.shown)
noncomputable def RAK (prog : Program) (w : World) (h : Heap) (us : List Value) (ps : List PyData) : Prop := ∃ as, ReadsAll h us ps as ∧ (PyData.showableAll ps = true → (∀ t ∈ PyData.shownAll ps, t.length ≤ sizeLine) → ∃ bs, ReadAtMost h (PyData.depthAll ps) bs ∧ ReprAllK prog w bs h (PyData.depthAll ps) us (PyData.shownAll ps))
theorem RK.flat (r : Reads h₀ u d []) (n : d.hasDict = false) : RK prog w h₀ u d := ⟨_, r, fun hs hz => ReprK.of_reads r hs (fun z => by rw [n] at z; cases z) hz⟩
theorem RAK.nil : RAK prog w h₀ [] [] := ⟨_, .nil, fun _ _ => ⟨[], (fun _ h => nomatch h), by simp only [PyData.shownAll]; exact .nil⟩⟩
theorem RAK.cons (r : RK prog w h₀ u d) (rs : RAK prog w h₀ us ds) : RAK prog w h₀ (u :: us) (d :: ds) := by
  obtain ⟨as, r1, r2⟩ := r
  obtain ⟨bs, q1, q2⟩ := rs
  refine ⟨_, .cons r1 q1, fun hs hz => ?_⟩
  have hs' : d.showable = true ∧ PyData.showableAll ds = true := by simpa [PyData.showableAll] using hs
  obtain ⟨b1, hb1, k1⟩ := r2 hs'.1 (hz _ (by simp only [PyData.shownAll]; exact List.mem_cons_self ..))
  obtain ⟨b2, hb2, k2⟩ := q2 hs'.2 (fun t ht => hz t (by simp only [PyData.shownAll]; exact List.mem_cons_of_mem _ ht))
  refine ⟨b1 ++ b2, ?_, ?_⟩
  · intro b hm
    simp only [PyData.depthAll]
    rcases List.mem_append.mp hm with hm | hm
    · obtain ⟨d', as', r', hd'⟩ := hb1 b hm
      exact ⟨d', as', r', Nat.le_trans hd' (Nat.le_max_left _ _)⟩
    · obtain ⟨d', as', r', hd'⟩ := hb2 b hm
      exact ⟨d', as', r', Nat.le_trans hd' (Nat.le_max_right _ _)⟩
  · simp only [PyData.depthAll, PyData.shownAll]
    exact .cons ((k1.more fun b hb => List.mem_append_left _ hb).level_le (Nat.le_max_left _ _)) (k2.more_le (fun b hb => List.mem_append_right _ hb) (Nat.le_max_right _ _))
/-- a container: its parts, and how it is shown when asked for -/
structure Shw (prog : Program) (w : World) (h : Heap) (a : Addr) (p : PyData) : Prop where
  rk : RK prog w h (.ref a) p
  sh : p.showable = true → p.shown.length ≤ sizeLine → ∃ T idr, ShowsBy prog w h a p T idr
theorem Shw.list {o : Obj} {vs : Array Value} {n : Nat} (h1 : h₀.get? a = some o) (h2 : o.cls = .type "list") (h3 : o.data = .seq vs n) (h4 : RAK prog w h₀ vs.toList ds) : Shw prog w h₀ a (.list ds) := by
  obtain ⟨as, r1, r2⟩ := h4
  have r : Reads h₀ (.ref a) (.list ds) _ := .list h1 h2 h3 r1
  refine ⟨⟨_, r, fun hs hz => ?_⟩, fun hs hz => ?_⟩
  · have hz' : (listText (PyData.shownAll ds)).length ≤ sizeLine := by simpa only [PyData.shown] using hz
    obtain ⟨bs, hb, hk⟩ := r2 (by simpa [PyData.showable] using hs) (fun t ht => Nat.le_trans (listText_mem_le ht) hz')
    have hna : a ∉ bs := not_mem_of_deeper r (by simp only [PyData.depth]; omega) hb
    refine ⟨a :: bs, ReadAtMost.cons r (by simp only [PyData.depth]; omega) hb, ?_⟩
    simp only [PyData.depth, PyData.shown]
    obtain ⟨l⟩ := vs
    cases l with
    | nil =>
      have r1' : ReadsAll h₀ [] ds _ := r1
      cases r1'
      simp only [PyData.shownAll, listText_nil]
      exact ReprK.listEmpty h1 h2 h3
    | cons x l => exact ReprK.list h1 h2 h3 hna (by simpa using hk.length_eq) (fun i y e => hk.item i y (by simpa using e))
  · have hz' : (listText (PyData.shownAll ds)).length ≤ sizeLine := by simpa only [PyData.shown] using hz
    obtain ⟨bs, hb, hk⟩ := r2 (by simpa [PyData.showable] using hs) (fun t ht => Nat.le_trans (listText_mem_le ht) hz')
    have hna : a ∉ bs := not_mem_of_deeper r (by simp only [PyData.depth]; omega) hb
    refine ⟨"list", "list.__repr__", F.slot_list_repr.toG, F.slot_list_str, F.slot_list_format, fun s hk0 => ⟨o, hk0 _ _ h1, h2⟩, fun A E s Q hg hu hk0 hQ => ?_⟩
    simp only [PyData.depth] at hu
    simp only [PyData.shown] at hQ
    obtain ⟨l⟩ := vs
    cases l with
    | nil =>
      have r1' : ReadsAll h₀ [] ds _ := r1
      cases r1'
      simp only [PyData.shownAll, listText_nil] at hQ
      exact call_list_repr_empty ⟨o, hk0 _ _ h1, h2⟩ (hk0 _ _ h1) h3 (hQ s.heap _ _ fun _ _ e => e)
    | cons x l =>
      exact call_list_reprK h1 h2 h3 hna (by simpa using hk.length_eq) (fun i y e => hk.item i y (by simpa using e)) hg (fun b _ => Clear.nil b) hu hk0 hQ hz'
theorem Shw.tuple {o : Obj} {vs : Array Value} {n : Nat} (h1 : h₀.get? a = some o) (h2 : o.cls = .type "tuple") (h3 : o.data = .seq vs n) (h4 : RAK prog w h₀ vs.toList ds) : Shw prog w h₀ a (.tuple ds) := by
  obtain ⟨as, r1, r2⟩ := h4
  have r : Reads h₀ (.ref a) (.tuple ds) _ := .tuple h1 h2 h3 r1
  refine ⟨⟨_, r, fun hs hz => ?_⟩, fun hs hz => ?_⟩
  · have hz' : (tupleText (PyData.shownAll ds)).length ≤ sizeLine := by simpa only [PyData.shown] using hz
    obtain ⟨bs, hb, hk⟩ := r2 (by simpa [PyData.showable] using hs) (fun t ht => Nat.le_trans (tupleText_mem_le ht) hz')
    have hna : a ∉ bs := not_mem_of_deeper r (by simp only [PyData.depth]; omega) hb
    refine ⟨a :: bs, ReadAtMost.cons r (by simp only [PyData.depth]; omega) hb, ?_⟩
    simp only [PyData.depth, PyData.shown]
    exact ReprK.tuple h1 h2 h3 hna hk
  · have hz' : (tupleText (PyData.shownAll ds)).length ≤ sizeLine := by simpa only [PyData.shown] using hz
    obtain ⟨bs, hb, hk⟩ := r2 (by simpa [PyData.showable] using hs) (fun t ht => Nat.le_trans (tupleText_mem_le ht) hz')
    have hna : a ∉ bs := not_mem_of_deeper r (by simp only [PyData.depth]; omega) hb
    refine ⟨"tuple", "tuple.__repr__", F.slot_tuple_repr, F.slot_tuple_str, F.slot_tuple_format, fun s hk0 => ⟨o, hk0 _ _ h1, h2⟩, fun A E s Q hg hu hk0 hQ => ?_⟩
    simp only [PyData.depth] at hu
    simp only [PyData.shown] at hQ
    exact call_tuple_reprK h1 h2 h3 hna hk hg (fun b _ => Clear.nil b) hu hk0 hQ hz'
theorem Shw.dict {o : Obj} {es : Array DictEntry} {n : Nat} {kvs : List (PyData × PyData)} (h1 : h₀.get? a = some o) (h2 : o.cls = .type "dict") (h3 : o.data = .dict es n) (ns : (a == sysModules) = false) (h4 : RAK prog w h₀ (es.toList.map (·.key)) (kvs.map (·.1))) (h5 : RAK prog w h₀ (es.toList.map (·.val)) (kvs.map (·.2))) : Shw prog w h₀ a (.dict kvs) := by
  obtain ⟨as, r1, r2⟩ := h4
  obtain ⟨bs, q1, q2⟩ := h5
  have r : Reads h₀ (.ref a) (.dict kvs) _ := .dict h1 h2 h3 r1 q1
  refine ⟨⟨_, r, fun hs hz => ?_⟩, fun hs hz => ?_⟩
  · have hz' : (dictText (PyData.shownKv kvs)).length ≤ sizeLine := by simpa only [PyData.shown] using hz
    obtain ⟨hs1, hs2⟩ := PyData.showableKv_split kvs (by simpa [PyData.showable] using hs)
    obtain ⟨b1, hb1, k1⟩ := r2 hs1 (fun t ht => let ⟨p, hp, hl⟩ := PyData.shownKv_key_le kvs t ht; Nat.le_trans hl (Nat.le_trans (dictText_mem_le hp) hz'))
    obtain ⟨b2, hb2, k2⟩ := q2 hs2 (fun t ht => let ⟨p, hp, hl⟩ := PyData.shownKv_val_le kvs t ht; Nat.le_trans hl (Nat.le_trans (dictText_mem_le hp) hz'))
    have hb : ReadAtMost h₀ (PyData.depthKv kvs) (b1 ++ b2) := (hb1.mono (PyData.depthAll_keys_le kvs)).append (hb2.mono (PyData.depthAll_vals_le kvs))
    have hna : a ∉ b1 ++ b2 := not_mem_of_deeper r (by simp only [PyData.depth]; omega) hb
    refine ⟨a :: (b1 ++ b2), ReadAtMost.cons r (by simp only [PyData.depth]; omega) hb, ?_⟩
    simp only [PyData.depth, PyData.shown, PyData.shownKv_eq]
    exact ReprK.dict h1 h2 h3 ns hna (ReprEntriesK.of_two es.toList _ _
      (k1.more_le (fun b hb => List.mem_append_left _ hb) (PyData.depthAll_keys_le kvs)) (k2.more_le (fun b hb => List.mem_append_right _ hb) (PyData.depthAll_vals_le kvs)))
  · have hz' : (dictText (PyData.shownKv kvs)).length ≤ sizeLine := by simpa only [PyData.shown] using hz
    obtain ⟨hs1, hs2⟩ := PyData.showableKv_split kvs (by simpa [PyData.showable] using hs)
    obtain ⟨b1, hb1, k1⟩ := r2 hs1 (fun t ht => let ⟨p, hp, hl⟩ := PyData.shownKv_key_le kvs t ht; Nat.le_trans hl (Nat.le_trans (dictText_mem_le hp) hz'))
    obtain ⟨b2, hb2, k2⟩ := q2 hs2 (fun t ht => let ⟨p, hp, hl⟩ := PyData.shownKv_val_le kvs t ht; Nat.le_trans hl (Nat.le_trans (dictText_mem_le hp) hz'))
    have hb : ReadAtMost h₀ (PyData.depthKv kvs) (b1 ++ b2) := (hb1.mono (PyData.depthAll_keys_le kvs)).append (hb2.mono (PyData.depthAll_vals_le kvs))
    have hna : a ∉ b1 ++ b2 := not_mem_of_deeper r (by simp only [PyData.depth]; omega) hb
    refine ⟨"dict", "dict.__repr__", F.slot_dict_repr, F.slot_dict_str, F.slot_dict_format, fun s hk0 => ⟨o, hk0 _ _ h1, h2⟩, fun A E s Q hg hu hk0 hQ => ?_⟩
    simp only [PyData.depth] at hu
    simp only [PyData.shown, PyData.shownKv_eq] at hQ
    exact call_dict_reprK h1 h2 h3 ns hna (ReprEntriesK.of_two es.toList _ _
      (k1.more_le (fun b hb => List.mem_append_left _ hb) (PyData.depthAll_keys_le kvs)) (k2.more_le (fun b hb => List.mem_append_right _ hb) (PyData.depthAll_vals_le kvs))) hg (fun b _ => Clear.nil b) hu hk0 hQ (by rw [← PyData.shownKv_eq]; exact hz')
end
section
variable {X : Cx} {pins : List (Addr × Obj)} {σ : St} {H Hf : Hp} {s : Shared}
theorem key_reads {prog : Program} {w : World} {h : Heap} {k : Key} {u : Value} (e : keyIs k u = true) : RK prog w h u (keyP k) := by
  rcases keyIs_shape e with ⟨i, t, rfl, rfl⟩ | ⟨x, t, rfl, rfl⟩
  · exact .flat (.int i t) rfl
  · exact .flat (.str x t) rfl
theorem keys_reads {prog : Program} {w : World} {h : Heap} : ∀ {es : List DictEntry} {kvs : List (Key × Value)}, Pairs (mixKind prog w) es kvs → RAK prog w h (es.map (·.key)) (kvs.map fun kv => keyP kv.1)
  | _, _, .nil => .nil
  | _, _, .cons h1 _ r => .cons (key_reads h1) (keys_reads r)
mutual
theorem reads_ok (I : Inv X pins σ H s) (e : Same Hf H) : ∀ (d : Dat) (v : V) (u : Value) (p : PyData), Rep X.K Hf d v → RelV v u → toPyD d = some p → RK X.prog X.w s.heap u p ∧ ∀ a, u = .ref a → Shw X.prog X.w s.heap a p
  | .non, _, u, p, .non, r, h => by rw [toPyD] at h; cases h; cases r; exact ⟨.flat .none rfl, nofun⟩
  | .bl _, _, u, p, .bl, r, h => by rw [toPyD] at h; cases h; cases r; exact ⟨.flat (.bool _) rfl, nofun⟩
  | .int _, _, u, p, .int, r, h => by rw [toPyD] at h; cases h; obtain ⟨t, rfl⟩ := r; exact ⟨.flat (.int _ _) rfl, nofun⟩
  | .str _, _, u, p, .str, r, h => by rw [toPyD] at h; cases h; obtain ⟨t, rfl⟩ := r; exact ⟨.flat (.str _ _) rfl, nofun⟩
  | .ty _, _, u, p, .ty, r, h => by rw [toPyD] at h; cases h
  | .lst l, _, u, p, .lst (a := a) (xs := xs) hx rs, r, h => by
    rw [toPyD] at h
    obtain ⟨ps, h1, h2⟩ := Option.map_eq_some_iff.mp h
    subst h2
    obtain rfl : u = Value.ref a := r
    obtain ⟨its, rv, ⟨o, n, ho, hc, _, hd⟩, hz⟩ := I.list (SqL.of (e _ _ hx))
    have q := Shw.list ho hc hd (by simpa using reads_all I e l _ _ _ rs rv h1)
    exact ⟨q.rk, fun b z => by cases z; exact q⟩
  | .adr _, _, u, p, .adr, r, h => by rw [toPyD] at h; cases h
  | .glo _, _, u, p, .glo, r, h => by rw [toPyD] at h; cases h
  | .obj _ _, _, u, p, .obj _ _, r, h => by rw [toPyD] at h; cases h
  | .exn _ _ _ _, _, u, p, .exn _ _, r, h => by rw [toPyD] at h; cases h
  | .exn _ _ _ _, _, u, p, .exn0, r, h => by rw [toPyD] at h; cases h
  | .scr _, _, u, p, .scr _ _, r, h => by rw [toPyD] at h; cases h
  | .dit _, _, u, p, .dit _ _, r, h => by rw [toPyD] at h; cases h
  | .tup l, _, u, p, .tup (a := a) (xs := xs) ht rs, r, h => by
    rw [toPyD] at h
    obtain ⟨ps, h1, h2⟩ := Option.map_eq_some_iff.mp h
    subst h2
    obtain rfl : u = Value.ref a := r
    obtain ⟨its, rv, ⟨o, ho, hc, n, hd⟩, hz⟩ := I.tuple (ht.mono e).sq
    have q := Shw.tuple ho hc hd (by simpa using reads_all I e l _ _ _ rs rv h1)
    exact ⟨q.rk, fun b z => by cases z; exact q⟩
  | .dic l, _, u, p, .dic (a := a) (xs := xs) hx rs, r, h => by
    rw [toPyD] at h
    obtain ⟨ps, h1, h2⟩ := Option.map_eq_some_iff.mp h
    subst h2
    obtain rfl : u = Value.ref a := r
    obtain ⟨ob, hx⟩ := hx
    obtain ⟨hz, hs, vs, kv, o, es, ep, ho, hx, hd, hk, hp, hn⟩ := dk_rd I.hok (.inr ⟨ob, e _ _ hx⟩)
    have g := reads_kv I e l _ _ _ _ rs kv hp h1
    have q := Shw.dict ho hx.1 hd hs g.1 g.2
    exact ⟨q.rk, fun b z => by cases z; exact q⟩
theorem reads_all (I : Inv X pins σ H s) (e : Same Hf H) : ∀ (l : List Dat) (vs : List V) (us : List Value) (ps : List PyData), Reps X.K Hf l vs → Vals vs us → toPyDs l = some ps → RAK X.prog X.w s.heap us ps
  | [], _, us, ps, .nil, r, h => by rw [toPyDs] at h; cases h; cases r; exact .nil
  | d :: l, _, us, ps, .cons h1 rs, r, h => by
    rw [toPyDs] at h
    obtain ⟨p, e1, h2⟩ := Option.bind_eq_some_iff.mp h
    obtain ⟨q, e2, e3⟩ := Option.map_eq_some_iff.mp h2
    subst e3
    cases r with
    | cons r1 r2 => exact .cons (reads_ok I e d _ _ _ h1 r1 e1).1 (reads_all I e l _ _ _ rs r2 e2)
theorem reads_kv (I : Inv X pins σ H s) (e : Same Hf H) : ∀ (l : List (Key × Dat)) (xs : List (Key × V)) (vs : List (Key × Value)) (es : List DictEntry) (ps : List (PyData × PyData)), RepK X.K Hf l xs → KV xs vs → Pairs (mixKind X.prog X.w) es vs → toPyKs l = some ps →
    RAK X.prog X.w s.heap (es.map (·.key)) (ps.map (·.1)) ∧ RAK X.prog X.w s.heap (es.map (·.val)) (ps.map (·.2))
  | [], _, vs, es, ps, .nil, r, hp, h => by
    rw [toPyKs] at h; cases h; cases r; cases hp; exact ⟨.nil, .nil⟩
  | (k, d) :: l, _, vs, es, ps, .cons h1 rs, r, hp, h => by
    rw [toPyKs] at h
    obtain ⟨p, e1, h2⟩ := Option.bind_eq_some_iff.mp h
    obtain ⟨q, e2, e3⟩ := Option.map_eq_some_iff.mp h2
    subst e3
    cases r with
    | cons r1 r2 =>
      cases hp with
      | cons p1 p2 p3 =>
        have g1 := (reads_ok I e d _ _ _ h1 r1.2 e1).1
        obtain ⟨g3, g4⟩ := reads_kv I e l _ _ _ _ rs r2 p3 e2
        have kk : k = _ := r1.1
        exact ⟨.cons (by rw [kk]; exact key_reads p1) g3, .cons (by rw [← p2] at g1; exact g1) g4⟩
end
/-- an owned list or dict that is only looked at -/
theorem reads_own (I : Inv X pins σ H s) (e : Same Hf H) {d : Dat} {a : Addr} {p : PyData} (r : RepP X.K Hf H d (.ref a)) (h : toPyD d = some p) : Shw X.prog X.w s.heap a p := by
  rcases r with r | ⟨a', F, ea, o⟩
  · exact (reads_ok I e _ _ (.ref a) _ r (show RelV (.ref a) (.ref a) from rfl) h).2 a rfl
  · cases ea
    cases o with
    | @lst _ l xs hx rs =>
      rw [toPyD] at h
      obtain ⟨ps, h1, h2⟩ := Option.map_eq_some_iff.mp h
      subst h2
      obtain ⟨its, rv, ⟨o, n, ho, hc, _, hd⟩, hz⟩ := I.list (SqL.of hx)
      exact Shw.list ho hc hd (by simpa using reads_all I e l _ _ _ rs rv h1)
    | obj _ _ => rw [toPyD] at h; cases h
    | dit _ _ => rw [toPyD] at h; cases h
    | own _ => rw [toPyD] at h; cases h
    | @dic _ l xs hx rs =>
      rw [toPyD] at h
      obtain ⟨ps, h1, h2⟩ := Option.map_eq_some_iff.mp h
      subst h2
      obtain ⟨hz, hs, vs, kv, o, es, ep, ho, hx, hd, hk, hp, hn⟩ := dk_of I.hok hx
      have g := reads_kv I e l _ _ _ _ rs kv hp h1
      exact Shw.dict ho hx.1 hd hs g.1 g.2
end
noncomputable def isBox : Dat → Bool
  | .tup _ => true
  | .dic _ => true
  | .lst _ => true
  | _ => false
noncomputable def reprD (p : PyData) : Option Dat := if p.showable = true ∧ p.depth ≤ 40 ∧ p.shown.length ≤ 1000000 then some (.str p.shown) else none
noncomputable def dRepr : List Dat → Option Dat
  | [d] => if isBox d = true then (toPyD d).bind reprD else none
  | _ => none
noncomputable def rRepr (K : PySem.W.Frag) : List V → Hp → VK → Prop := fun xs H Q => ∃ (Hf : Hp) (d : Dat) (a : Addr) (p : PyData), Same Hf H ∧ RepP K Hf H d (.ref a) ∧ xs = [.ref a] ∧ toPyD d = some p ∧ p.showable = true ∧ p.depth ≤ 40 ∧ p.shown.length ≤ 1000000 ∧ Q (.str p.shown) H
theorem cr_repr {X : Cx} (hg : X.A.guards = some []) (hu : X.A.units + 64 < cLine) : CallR X (.builtin "repr") (rRepr X.K) := by
  intro pins s σ H xs us Q I rv ⟨Hf, d, a, p, e, r, ex, hp, h1, h2, h3, q⟩
  subst ex
  cases rv with
  | cons ra rn =>
    cases rn
    obtain rfl := (show _ = Value.ref a from ra)
    obtain ⟨T, idr, S⟩ := (reads_own I e r hp).sh h1 (Nat.le_trans h3 (by decide))
    exact call_repr_slot (by omega) (S.typeIs s fun _ _ z => z) S.slotRepr (S.call X.A.in1 _ s _ hg (by show X.A.units + 1 + p.depth < cLine; omega) (fun _ _ z => z) fun h' u tk hk => ⟨_, _, rfl, .str p.shown, H, I.kept (t' := tk) hk, ⟨u, rfl⟩, q⟩)
theorem dRepr_ok {K : PySem.W.Frag} : OpC K (rRepr K) dRepr := by
  intro Hf H xs ds d e r h Q q
  unfold dRepr at h
  split at h
  · rename_i d0
    split at h
    · rename_i hb
      obtain ⟨p, h1, h2⟩ := Option.bind_eq_some_iff.mp h
      unfold reprD at h2
      split at h2
      · rename_i hc
        cases h2
        obtain ⟨v, rfl, rv⟩ := r.one'
        have hv : ∃ a, v = .ref a := by
          cases d0 <;> first | (cases hb; done) | skip
          · obtain ⟨a, _, e1, _⟩ := rv.tup e; exact ⟨a, e1⟩
          · obtain ⟨a, _, e1, _⟩ := rv.lst e; exact ⟨a, e1⟩
          · obtain ⟨a, _, e1, _⟩ := rv.dic e; exact ⟨a, e1⟩
        obtain ⟨a, rfl⟩ := hv
        exact ⟨Hf, d0, a, p, e, rv, rfl, h1, hc.1, hc.2.1, hc.2.2, q _ Hf H (.refl e) .str⟩
      · cases h2
    · cases h
  · cases h
/-! ### s.index(t), t is there -/
noncomputable def dIndex (s : Str) : Dat → Option Dat
  | .str b => (Txt.index0 s b).map fun k => .int (k : Nat)
  | _ => none
noncomputable def rIndexF : V → List V → Hp → VK → Prop := fun x xs H Q => ∃ (a b : Str) (k : Nat), x = .str a ∧ xs = [.str b] ∧ Txt.index0 a b = some k ∧ Q (.int (k : Nat)) H
theorem mt_indexF {X : Cx} {W : WX} (hc : X.calm = true) (tk : L2N.Takes X W) : MtR X "str.index" rIndexF := by
  intro pins s σ H x xs v us Q I rx rs ⟨a, b, k, e1, e2, e3, q⟩
  subst e1 e2
  obtain ⟨tv, rfl⟩ := rx
  match us, rs with
  | [_], .cons ⟨tu, rfl⟩ .nil =>
    cases eo : Builtin.Str.occurrences a b 0 a.length 1 with
    | nil => unfold Txt.index0 at e3; rw [eo] at e3; cases e3
    | cons k0 rest =>
      have e4 : Txt.index0 a b = some k0 := by unfold Txt.index0; rw [eo] <;> rfl
      rw [e4] at e3; cases e3
      exact PySem.SC.index eo ⟨.int (k : Nat), H, I.tok _, ⟨_, rfl⟩, q⟩
theorem dIndex_ok {K : PySem.W.Frag} : OpM K rIndexF dIndex := by
  intro Hf H s y dy d e ry h Q q
  unfold dIndex at h
  split at h
  · obtain ⟨k, h1, h2⟩ := Option.map_eq_some_iff.mp h
    subst h2
    cases ry.str
    exact ⟨s, _, k, rfl, rfl, h1, q _ Hf H (.refl e) .int⟩
  · cases h
end D

namespace D
open PySem PySem.Spec PyProof.Rows L2
/-! ### the law's call, where nothing is shown yet: no guard stands -/
/-- a def that runs right under the caller -/
noncomputable def RunG (P : Program) (w : World) (K : PySem.W.Frag) (mg : Str → Option Value) (base : Heap) (f : Addr) (fd : FuncData) (x : Str) (sp : Sp) : Prop :=
  ∀ (s : Shared) (H : Hp) (u : Value) (v : V) (Q : VK), Env0 P w K mg base callerA [] s H → BindsTo s fd ⟨[u], []⟩ [(x, u)] → RelV v u → sp [v] H Q (fun _ _ _ => False) →
    codeAny (model P w) callerA (.call (.ref f) ⟨[u], []⟩) (CR (L2N.CX P w) [] P w H s Q fun _ _ _ => False) s
section
variable {P : Program} {w : World} {K : PySem.W.Frag} {mg mb : Str → Option Value} {f a : Addr} {fd : FuncData} {x : Str} {sp : Sp} {s : Shared} {vs : List Value} {ns : List Int}
theorem law_coreG (KX : K.In s.heap) (h1 : s.heap.Ns mainGlobals mg) (h2 : s.heap.Ns builtinsNs mb) (h3 : ∀ x : Str, x ≠ "__name__" → mb x = bootBuiltins x) (h4 : s.heap.NoLimit) (h5 : s.gens = #[])
    (ha : s.heap.get? a = some { cls := .type "list", data := .seq vs.toArray }) (F : ∀ base : Heap, K.In base → base.Ns mainGlobals mg → RunG P w K mg base f fd x sp)
    (hb : ∀ (s : Shared) (u : Value), BindsTo s fd ⟨[u], []⟩ [(x, u)]) (H : Hp) (hO : ∀ b u, H b = some u → b = a ∧ ∃ o xs, u = .frz o (.lst xs)) (ok : HOk P w H s.heap) (hK : H a ≠ none → K.lookup a = none)
    (hsp : sp [.ref a] H (fun v _ => v = .bl true) fun _ _ _ => False) :
    codeAny (model P w) callerA (.call (.ref f) ⟨[.ref a], []⟩) (fun r s' => r = .ok (.ret (.bool true)) ∧ OldK s.heap s'.heap ∧ s'.os = s.os ∧ AllBare s'.gens) s := by
  have off : ∀ {b : Addr} {o : Obj}, s.heap.get? b = some o → (∀ vs n, o.data ≠ .seq vs n) → H b = none := fun {b o} g n => by
    cases q : H b with
    | none => rfl
    | some u =>
      obtain ⟨rfl, _⟩ := hO b u q
      rw [ha] at g; cases g
      exact absurd rfl (n _ _)
  have ns : ∀ {b : Addr} {m : Str → Option Value}, s.heap.Ns b m → (hidT s.heap H).Ns b m := fun ⟨o, es, ep, g, d, r⟩ =>
    ⟨o, es, ep, hidT_get g (off g fun vs n z => by rw [d] at z; cases z), d, r⟩
  have KB : K.In (hidT s.heap H) := fun b o g => by
    refine hidT_get (KX b o g) ?_
    cases q : H b with
    | none => rfl
    | some u =>
      obtain ⟨rfl, _⟩ := hO b u q
      rw [hK (by rw [q]; exact fun z => by cases z)] at g; cases g
  have M : L2.Mod K mg (hidT s.heap H) := by
    obtain ⟨mc, l1, l2⟩ := h4
    exact ⟨KB, ns h1, ⟨mb, ns h2, h3⟩, ⟨mc, ns l1, l2⟩⟩
  have E0 : Env0 P w K mg (hidT s.heap H) callerA [] s H :=
    ⟨rfl, M, fun b o g => of_hidT g, Nat.le_of_eq (hidT_size _ _), trivial, fun b z => absurd (show b ∈ ([] : List Addr) from z) List.not_mem_nil, ok, .of_eq h5⟩
  refine codeAny_mono (F _ KB (ns h1) s H (.ref a) (.ref a) _ E0 (hb s (.ref a)) rfl hsp) fun r s' q => ?_
  cases r with
  | error e => exact (noX q).elim
  | ok fl =>
    cases fl with
    | ret u =>
      obtain ⟨v, H', e1, e2, un, ok', r1, e3⟩ := q
      obtain rfl : v = .bl true := e3
      obtain rfl : u = Value.bool true := r1
      have keep : ∀ b o, s.heap.get? b = some o → s'.heap.get? b = some o := fun b o g => by
        cases q : H b with
        | none => exact un.keep b o g q (fun z => absurd (show b ∈ ([] : List Addr) from z) List.not_mem_nil) (by simp)
        | some u =>
          obtain ⟨rfl, o', xs, rfl⟩ := hO b u q
          have z1 := (ok b _ q).1
          have z2 := (ok' b _ (un.frzs b o' _ q)).1
          rw [g] at z1; cases z1
          exact z2
      exact ⟨rfl, ⟨fun b o g => .inl (keep b o g), fun b o g => ⟨o, keep b o g⟩⟩, e1, e2⟩
    | next => exact False.elim q
    | brk => exact False.elim q
    | cont => exact False.elim q
theorem law_callG (KX : K.In s.heap) (h1 : s.heap.Ns mainGlobals mg) (h2 : s.heap.Ns builtinsNs mb) (h3 : ∀ x : Str, x ≠ "__name__" → mb x = bootBuiltins x) (h4 : s.heap.NoLimit) (h5 : s.gens = #[])
    (ha : s.heap.get? a = some { cls := .type "list", data := .seq vs.toArray }) (hi : IntsAre vs ns) (hl : ns.length ≤ sizeLine) (F : ∀ base : Heap, K.In base → base.Ns mainGlobals mg → RunG P w K mg base f fd x sp)
    (hb : ∀ (s : Shared) (u : Value), BindsTo s fd ⟨[u], []⟩ [(x, u)]) (hsp : ∀ H : Hp, SqL K H a (ns.map V.int) → sp [.ref a] H (fun v _ => v = .bl true) fun _ _ _ => False) :
    codeAny (model P w) callerA (.call (.ref f) ⟨[.ref a], []⟩) (fun r s' => r = .ok (.ret (.bool true)) ∧ OldK s.heap s'.heap ∧ s'.os = s.os ∧ AllBare s'.gens) s := by
  have rv := vals_ints hi
  have len := hi.length
  cases hk : K.lookup a with
  | some o =>
    have g := KX a o hk
    rw [ha] at g; cases g
    refine law_coreG KX h1 h2 h3 h4 h5 ha F hb (fun _ => none) (fun _ _ z => by cases z) (fun _ _ z => by cases z) (fun z => absurd rfl z) (hsp _ ?_)
    exact .inr ⟨_, vs.toArray, _, hk, rfl, rfl, rfl, by rw [List.size_toArray, len]; exact hl, by simpa using rv⟩
  | none =>
    refine law_coreG KX h1 h2 h3 h4 h5 ha F hb (fun b => if b = a then some (.frz { cls := .type "list", data := .seq vs.toArray } (.lst (ns.map V.int))) else none) (fun b u z => ?_) (fun b u z => ?_) (fun _ => hk) (hsp _ ?_)
    · by_cases q : b = a
      · rw [if_pos q] at z; cases z; exact ⟨q, _, _, rfl⟩
      · rw [if_neg q] at z; cases z
    · dsimp only at z
      by_cases q : b = a
      · rw [if_pos q] at z; cases z
        subst q
        exact ⟨ha, by rw [List.length_map]; exact hl, vs, _, rv, ha⟩
      · rw [if_neg q] at z; cases z
    · exact .inl (.inr ⟨_, if_pos rfl⟩)
end
/-! ### the law's def, walked there -/
theorem fn_G {P : Program} {w : World} {K : PySem.W.Frag} {mg : Str → Option Value} {base : Heap} {x qual : Str} {pa : Arguments} {bd : List Stmt} {sc : Scope} {dvs : List V} {kws : List (Str × V)} {f : Addr} {fd : FuncData} {N : List Str} {p1 : Str} {k : Nat} {body : M Out} (G : FunD K x qual pa bd sc dvs kws f fd) (S : FnScope N [p1] sc) (hN : 1 ≤ N.length) (rm : Room (k + 1) callerA)
    (hbody : ∀ (cdv : Value) (outer : List Env) (s : Shared) (H : Hp) (E : XK), Room k (callerA.deeper (PyProof.Rows.envOfC qual sc s.heap.objs.size f cdv)) → (callerA.deeper (PyProof.Rows.envOfC qual sc s.heap.objs.size f cdv)).guards = some [] →
      DB (cxOf (L2N.CX P w) P w K mg base N qual sc f cdv callerA outer s H E) (fun cls d _ H => E cls d H) 1 bd body) :
    RunG P w K mg base f fd p1 (spD K 1 (mkF N.length body)) := by
  obtain ⟨oc, od, dV, kV, doc, pm, an, cdv, ct, osl, rfl, lk, hcd, _, _⟩ := G.ex
  intro s H u v Q e0 bt rl sp
  let E : XK := fun _ _ _ => False
  obtain ⟨hv, Hf, as, R, p⟩ := sp
  have KX := e0.mod.kin.keeps fun b o g => (e0.bs b o g).1
  have lm := e0.mod.nolimit.keeps fun b o g => (e0.bs b o g).1
  have rs : Vals [v] [u] := .cons rl .nil
  have kinds : ∀ y ∈ [(p1, u)], sc.names.lookup y.1 = some .local ∨ (sc.names.lookup y.1 = some .cell ∧ ((cellsFrom (s.heap.objs.size + 1) sc.names []).lookup y.1).isSome = true) := by
    intro y hy
    cases List.mem_singleton.mp hy
    rcases S.par p1 (List.mem_singleton.mpr rfl) with q | q
    · exact .inl q
    · exact .inr ⟨q, PySem.W.cellsFrom_some _ _ _ (.inl q)⟩
  refine codeAny_call_function rm.depth (KX _ _ lk) rfl S.co S.gen rfl (PySem.W.codeRec_of KX hcd) (bt _ _ _ _ ?_)
  refine wpAny_newFunctionEnv_cells S.kind kinds fun env he s1 z => ?_
  subst he
  refine ⟨lm.keeps z.toInCall.keep, codeAny_func ?_⟩
  have B := hbody cdv [] s H E (rm.deeper _) rfl
  have I : L2.Inv (cxOf (L2N.CX P w) P w K mg base N qual sc f cdv callerA [] s H E) [] (start N [v]) H s1 := inv_start S rm.hd e0 rfl rs z
  have go := B.run [] s1 (start N [v]) H { nx := fun _ H' => Q .non H', rt := Q } I ⟨Hf, as ++ List.replicate (N.length - as.length) Sl.no, Rl.start (N := N) R (by simpa using hN), leave_body (N := N) (ps := [p1]) hv R p⟩
  refine wpAny_mono go (fun fl s' q => ?_) fun _ _ q => q
  have out : ∀ {σ' : L2.St} {H' : Hp} {v' : V} {u' : Value}, L2.Inv (cxOf (L2N.CX P w) P w K mg base N qual sc f cdv callerA [] s H E) [] σ' H' s' → RelV v' u' → Q v' H' → CE [] P w H s Q u' s' :=
    fun J r' q' => ⟨_, _, J.os, J.bare, J.base, J.hok, r', q'⟩
  cases fl with
  | ret u' => obtain ⟨v', σ', H', J, r', q'⟩ := q; exact out J r' q'
  | next => obtain ⟨σ', H', J, q'⟩ := q; exact out (v' := V.non) (u' := Value.none) J rfl q'
  | brk => obtain ⟨_, _, _, q'⟩ := q; exact q'.elim
  | cont => obtain ⟨_, _, _, q'⟩ := q; exact q'.elim
theorem walk_ofG {l : PySem.W.OpenLaw} {n : Nat} {q : Program} {loose : List Str} {XP : (Str → Option Value) → Heap → Prop} {YP : World → Heap → Prop} {d : DefRec} {x : Str} (hn : l.most = some n) (hz : n ≤ sizeLine) (hdf : d.params.defaults = [])
    (F : ∀ (w : World) (mg : Str → Option Value) (f : Addr) (h : Heap), YP w h → h.Ns mainGlobals mg → mg d.name = some (.ref f) → ∃ (K : PySem.W.Frag) (fd : FuncData) (sp : Sp), K.In h ∧ (∀ (s : Shared) (u : Value), BindsTo s fd ⟨[u], []⟩ [(x, u)]) ∧
      (∀ (H : Hp) (a : Addr) (ns : List Int), ns.length ≤ n → SqL K H a (ns.map V.int) → sp [.ref a] H (fun v _ => v = .bl true) fun _ _ _ => False) ∧ ∀ base : Heap, K.In base → base.Ns mainGlobals mg → RunG l.prog w K mg base f fd x sp) :
    PySem.W.WalkO q loose XP YP l.row.toRowW d [] (fun f vs => PySem.call f vs) := by
  refine Att.attach_callB hn hdf fun w s0 s1 mg mb f o pm cd doc a vs ns G Y _ _ _ hm hobj hints hlen _ hg => ?_
  obtain ⟨K, fd, sp, k1, k2, k3, k4⟩ := F w mg f _ Y G.T.g hm
  exact law_callG k1 G.T.g G.T.b G.T.builtins G.T.nolimit hg hobj hints (Nat.le_trans hlen hz) k4 k2 fun H hS => k3 H a ns hlen hS
end D

namespace D
open PySem L2
/-! ### raise C(e), C a class with one field of its own -/
/-- what __init__(self, f) promises -/
noncomputable def spIni (C : Addr) (f : Str) : Sp := fun vs H Q _ => ∃ (a : Addr) (v : V), vs = [.ref a, v] ∧ H a = some (exo a C none) ∧ ∀ dx, H dx = none → dx ≠ a → Q .non (upd (upd H dx (exd dx [(f, v)])) a (exo a C (some dx)))
/-- what the written part says of such a class -/
structure IniC (P : Program) (w : World) (K : PySem.W.Frag) (mg : Str → Option Value) (base : Heap) (k : Nat) (x f : Str) : Prop where
  oex : OexC K (He.ga K x)
  gC : mg x = some (.ref (He.ga K x))
  ini : ∃ fI fd ps, ps.length = 2 ∧ PySem.W.findIn K (.ref (He.ga K x)) "__init__" = some (some (.ref fI)) ∧ PySem.W.typeIn K (.ref fI) = some (.type "function") ∧ FnOk P w K mg base (L2N.CX P w) k fI fd ps (spIni (He.ga K x) f) ∧ Binds K fd ps [] ∧ L2H.FnH P w K mg base (L2N.CX P w) k fI fd ps (spIni (He.ga K x) f)
section
variable {X : Cx} {W : WX} {np : Nat} {e : Expr} {pos pos2 p : Pos} {ma : M Dat} {x f : Str} {k : Nat}
noncomputable def rse (x : Xc) : M Out := fun η => .rs x η
noncomputable def oneV (its : List Ai) : Option Dat := match vals its with
  | some [d] => some d
  | _ => none
theorem oneV_ok {K : PySem.W.Frag} {Hf : Hp} {σ : St} {its : List Ai} {vs : List V} {d : Dat} (A : Ais K Hf σ its vs) (h : oneV its = some d) : ∃ v, vs = [v] ∧ Rep K Hf d v := by
  unfold oneV at h
  split at h
  · rename_i d' e
    cases h
    have r := vals_ok A e
    cases r with
    | cons h1 r2 => cases r2; exact ⟨_, rfl, h1⟩
  · cases h
theorem xd_heap {H : Hp} {a d C : Addr} {fs : List (Str × V)} (na : H a = none) (nd : d ≠ a) : upd (del (upd (upd (upd H a (exo a C none)) d (exd d fs)) a (exo a C (some d))) a) d (.xd fs) = upd H d (.xd fs) := by
  funext b
  by_cases e1 : b = d
  · subst e1; rw [upd_same, upd_same]
  · rw [upd_ne e1, upd_ne e1]
    by_cases e2 : b = a
    · subst e2; rw [del_same, na]
    · rw [del_ne e2, upd_ne e2, upd_ne e1, upd_ne e2]
/-- C(e, ..) where nothing is handled: its context is None -/
theorem pmk_oexN {X : Cx} {CX : CXT} {x : Str} {e : Expr} {es : List Expr} {ta : TA} {p pos : Pos} {C fI : Addr} {k : Nat} {fd : FuncData} {ps : List Str} {sp : Sp} {ds : List Value} {dvs : List V} (T : OexC X.K C) (hi : PySem.W.findIn X.K (.ref C) "__init__" = some (some (.ref fI))) (ht : PySem.W.typeIn X.K (.ref fI) = some (.type "function"))
    (G : FnOk X.prog X.w X.K X.mg X.base CX k fI fd ps sp) (room : Room (k + 1) X.A) (bd : Binds X.K fd ps ds) (dv : Vals dvs ds) (pa : Passes CX X (fun _ _ _ => False)) (gl : Gl X x) (mx : X.mg x = some (.ref C)) (ha : PA X (e :: es) ta)
    (nd : (x == ("__debug__" : Str)) = false := by decide) (se : starEach (e :: es) X.env = (false, eval e X.env) :: starEach es X.env := by rfl) (sp2 : (backTo pos (starEach es X.env)).any (·.1) = false := by rfl) :
    L2N.PMk X (.Call (.Name x p) (e :: es) [] pos) (tMkO C sp dvs ta) := by
  intro pins s σ H Q I h
  obtain ⟨n1, n2, n3, n4, bm, n5, n6, n7, n8, n9, j0, j1, j2, j3, j5, cC, cb⟩ := T.cls
  refine wpAny_Call_Name_kw (ld_glob I gl mx ?_ nd)
  refine PySem.W.callWith_K (h₀ := X.base) I.ok.mod.kin T.kC (thn (ha.run pos pins s σ H _ I h) fun us t1 ⟨vs, H1, I1, r1, _, q1⟩ => ⟨I1.kIn, ?_⟩) se sp2
  show wpAny _ _ (call (.ref C) us) _ _ _
  obtain ⟨hp, g, dr, tk, os⟩ := t1
  have le : hp.objs.size ≤ hp.objs.size + 1 := Nat.le_succ _
  have fr : H1 (hp.objs.size + 1) = none := I1.hok.fresh le
  have ask := q1 (hp.objs.size + 1) fr
  have stay : ∀ b o, hp.get? b = some o → ((hp.push (PySem.W.kdv_tup us)).push (PySem.HandSPX.excO C hp.objs.size)).get? b = some o := fun b o z => Heap.get?_push_of_some _ (Heap.get?_push_of_some _ z)
  have at1 : ((hp.push (PySem.W.kdv_tup us)).push (PySem.HandSPX.excO C hp.objs.size)).get? (hp.objs.size + 1) = some (PySem.HandSPX.excO C hp.objs.size) := by heap_get
  have J := I1.laid (t' := tk) (a := hp.objs.size + 1) (o := exo (hp.objs.size + 1) C none) (h' := (hp.push (PySem.W.kdv_tup us)).push (PySem.HandSPX.excO C hp.objs.size)) stay le (exo_ok at1)
  have vv : Vals (V.ref (hp.objs.size + 1) :: (vs ++ dvs)) (Value.ref (hp.objs.size + 1) :: (us ++ ds)) := .cons rfl (r1.append dv)
  have len : (Value.ref (hp.objs.size + 1) :: us ++ ds).length = ps.length := by
    have z := vv.length
    rw [G.len _ _ _ _ ask] at z
    exact z.symm
  have few : us.length ≤ sizeLine := by
    rw [← Paired.length r1, sizeLine_eq]; omega
  refine wpAny_call (PySem.HandSPX.call_own F.excBase_ValueError (fun Y => PySem.HandSPX.refsVE_contains Y bm cb) (I1.kIn _ _ cC) (PySem.W.looks_findIn I1.kIn hi) (fun self => PySem.W.bind_fn I1.kIn self ht) few
    (codeAny_mono (G.run _ X.stack _ _ ⟨Value.ref (hp.objs.size + 1) :: us, []⟩ (Value.ref (hp.objs.size + 1) :: (us ++ ds)) _ _ (fun _ _ _ => False) (room.make C us []) (J.env0.make C us []) (bd _ (Value.ref (hp.objs.size + 1) :: us) J.kIn len) vv ask) fun r t2 z => ?_))
  match r, z with
  | .error er, z => exact pa pins σ _ _ er t2 J z
  | .ok .next, z => exact False.elim z
  | .ok .brk, z => exact False.elim z
  | .ok .cont, z => exact False.elim z
  | .ok (.ret u), ⟨v, H2, o2, b2, u2, k2, rv, ev, d, fs, ea, ed, hd1, q2⟩ =>
    subst ev
    obtain ⟨h2, g2, d2, t3, o3⟩ := t2
    obtain ⟨t0, G0, J2, kG, ge, hoe, na⟩ := mk_end0 (d2 := d2) (t2 := t3) I1 le stay u2 k2 o2 b2 ea ed hd1
    exact ⟨rv, hp.objs.size + 1, _, _, ⟨G0, g2, d2, t3, o3⟩, _, .ref C, some d, rfl, J2, kG, ge, hoe, ⟨rfl, rfl, fun vs hv => by cases hv; rfl⟩, rfl, rfl, na, rfl, b2, raises_own T.exC T.tyC, q2⟩
theorem passN {X : Cx} : Passes (L2N.CX X.prog X.w) X E0 := fun _ _ _ _ _ _ _ h => by
  obtain ⟨_, _, _, _, _, _, _, _, _, _, _, _, w⟩ := h
  exact False.elim w
noncomputable abbrev sRaiseI (x f : Str) (ms : M (List Ai)) : M Out := bnd ms fun its => bnd (lft (oneV its)) fun d => rse ⟨x, some [(f, d)]⟩
theorem ds_raiseI {ms : M (List Ai)} (T : IniC X.prog X.w X.K X.mg X.base k x f) (hr : Room (k + 1) X.A) (hg : Gl X x) (hc : X.calm = true) (tk : L2N.Takes X W) (ha : DA X W np [e] ms)
    (hdb : (x == ("__debug__" : Str)) = false := by decide) (he : starEach [e] X.env = (false, eval e X.env) :: starEach [] X.env := by rfl) (hpl : (backTo pos (starEach [] X.env)).any (·.1) = false := by rfl) :
    DS X W np (.Raise (some (.Call (.Name x p) [e] [] pos)) none pos2) (sRaiseI x f ms) := by
  obtain ⟨fI, fd, ps, h0, h1, h2, h3, h4, _⟩ := T.ini
  refine PS.wk (L2N.ps_raise hc tk (pmk_oexN (dvs := []) T.oex h1 h2 h3 hr h4 .nil passN hg T.gC ha hdb he hpl)) fun E σ H ⟨Hf, η, R, p⟩ => ⟨Hf, η, R, p.bnd fun its Hf1 H1 η1 σ1 R1 S1 p1 e1 vs rv => ?_⟩
  subst e1
  obtain ⟨d, hd, q⟩ := p1.bndL
  obtain ⟨v, ev, rv'⟩ := oneV_ok rv hd
  subst ev
  refine ⟨by show 1 ≤ 1000; decide, fun a na => ⟨a, v, rfl, upd_same, fun dx nx ne => ?_⟩⟩
  have nx' : H1 dx = none := by rw [upd_ne ne] at nx; exact nx
  refine ⟨rfl, dx, [(f, v)], upd_same, by rw [upd_ne ne, upd_same], nx', ?_⟩
  rw [xd_heap na ne]
  have nf : Hf1 dx = none := R1.ex.free nx'
  have no : ¬ Own X.K Hf1 H1 η1 σ1 dx := own_none nx'
  exact q Hf1 _ σ1 (some dx) (R1.updNew nf no) (Stp.updNew R1 nf no .refl nx') ⟨dx, [(f, v)], rfl, nx', upd_same, nf, rfl, .cons rv' .nil⟩
/-! ### raise C('..'), C without an __init__ of its own -/
noncomputable abbrev sRaiseS (x : Str) : M Out := rse ⟨x, none⟩
theorem ds_raiseS {B newId initId : String} {bmB : List Value} {m : Str} {j : Nat} {p2 : Pos} (F : ExcBaseFacts B newId initId bmB) (q : PySem.W.excIn X.K (He.ga X.K x) bmB newId = true) (gC : X.mg x = some (.ref (He.ga X.K x))) (kC : PySem.W.keepIn X.K (.ref (He.ga X.K x)) = true) (r : Raises X (.ref (He.ga X.K x))) (hg : Gl X x) (hc : X.calm = true) (tk : L2N.Takes X W)
    (hdb : (x == ("__debug__" : Str)) = false := by decide) : DS X W np (.Raise (some (.Call (.Name x p) [.Constant (.str m) j p2] [] pos)) none pos2) (sRaiseS x) :=
  PS.wk (L2N.ps_raise hc tk (L2N.pmk_own F q gC kC r hg hdb)) fun E σ H ⟨Hf, η, R, p⟩ => p Hf H σ none R .refl rfl
end
/-! ### the __init__ itself -/
theorem ini_ok {P : Program} {w : World} {K : PySem.W.Frag} {mg : Str → Option Value} {base : Heap} {x qual f : Str} {C : Addr} {pa : Arguments} {sc : Scope} {dvs : List V} {kws : List (Str × V)} {g : Addr} {fd : FuncData} {p1 p2 p3 p4 : Pos}
    (F : FunD K x qual pa [.Assign [.Attribute (.Name "self" p1) f p2] (.Name f p3) p4] sc dvs kws g fd) (S : FnScope ["self", f] ["self", f] sc) (hs : Vis sc "self") (hf : Vis sc f) (T : OexC K C) (hno : PySem.W.findIn K (.ref C) f = some none)
    (hd : (f == ("__debug__" : Str)) = false) (hcd : (f == ("__classdict__" : Str)) = false) : FnOk P w K mg base (L2N.CX P w) 1 g fd ["self", f] (spIni C f) := by
  refine FunD.ok (k := 0) F S (fun vs H Q E h => by obtain ⟨_, _, rfl, _⟩ := h; rfl) (fun cdv A outer s H vs Q E hr h => ?_)
  obtain ⟨a, v, rfl, ha, q⟩ := h
  refine ⟨_, pss_one (ps_ost (pe_var (i := 0) rfl hs) (pe_var (i := 1) rfl hf hd hcd)), ?_⟩
  refine ⟨v, rfl, .ref a, rfl, a, C, rfl, T, hno, .inl ⟨ha, fun dx nx ne => q dx nx ne⟩⟩
/-- the same where an exception is handled -/
theorem ini_okH {P : Program} {w : World} {K : PySem.W.Frag} {mg : Str → Option Value} {base : Heap} {x qual f : Str} {C : Addr} {pa : Arguments} {sc : Scope} {dvs : List V} {kws : List (Str × V)} {g : Addr} {fd : FuncData} {p1 p2 p3 p4 : Pos}
    (F : FunD K x qual pa [.Assign [.Attribute (.Name "self" p1) f p2] (.Name f p3) p4] sc dvs kws g fd) (S : FnScope ["self", f] ["self", f] sc) (hs : Vis sc "self") (hf : Vis sc f) (T : OexC K C) (hno : PySem.W.findIn K (.ref C) f = some none)
    (hd : (f == ("__debug__" : Str)) = false) (hcd : (f == ("__classdict__" : Str)) = false) : L2H.FnH P w K mg base (L2N.CX P w) 1 g fd ["self", f] (spIni C f) := by
  obtain ⟨oc, od, dV, kV, doc, pm, an, cdv, ct, osl, rfl, lk, hcd2, _, _⟩ := F.ex
  refine L2H.fn_ofH (k := 0) lk hcd2 S (fun vs H Q E h => by obtain ⟨_, _, rfl, _⟩ := h; rfl) (fun A outer s H vs Q E p hot hr h => ?_)
  obtain ⟨a, v, rfl, ha, q⟩ := h
  refine ⟨_, pss_one (ps_ost (pe_var (i := 0) rfl hs) (pe_var (i := 1) rfl hf hd hcd)), ?_⟩
  refine ⟨v, rfl, .ref a, rfl, a, C, rfl, T, hno, .inl ⟨ha, fun dx nx ne => q dx nx ne⟩⟩
end D

namespace D
open PySem L2
/-! ### tuple(xs), t + u of tuples -/
noncomputable def dTuple : List Dat → Option Dat
  | [.lst l] => some (.tup l)
  | [.tup l] => some (.tup l)
  | _ => none
theorem dTuple_ok {K : PySem.W.Frag} : OpC K (fun xs H Q => ∃ p ys, xs = [.ref p] ∧ ((SqL K H p ys ∧ ∀ l, H l = none → Q (.ref l) (upd H l (.tup ys))) ∨ (SqT K H p ys ∧ Q (.ref p) H))) dTuple := by
  intro Hf H xs ds d e r h Q q
  unfold dTuple at h
  split at h
  · cases h
    obtain ⟨v, rfl, rv⟩ := r.one'
    obtain ⟨a, ys, rfl, h1, h2⟩ := rv.lst e
    refine ⟨a, ys, rfl, .inl ⟨.of h1, fun l n => ?_⟩⟩
    have ex := Ext.new (u := .tup ys) e n
    exact q _ _ _ ex (.tup (.inl upd_same) (h2.mono ex.ef))
  · cases h
    obtain ⟨v, rfl, rv⟩ := r.one'
    rcases rv with rv | ⟨a, F, rfl, o⟩
    · have rv' := rv
      cases rv with
      | tup h1 h2 => exact ⟨_, _, rfl, .inr ⟨(h1.mono e).sq, q _ Hf H (.refl e) rv'⟩⟩
    · cases o
  · cases h
noncomputable def dAddT : Dat → Dat → Option Dat
  | .tup i, .tup j => if fits (i.length + j.length) = true then some (.tup (i ++ j)) else none
  | _, _ => none
theorem dAddT_ok {K : PySem.W.Frag} : Op2 K (rCatA K) dAddT := by
  intro Hf H x y dx dy d e rx ry h Q q
  unfold dAddT at h
  split at h
  · rename_i i j
    obtain ⟨a, xs, rfl, h1, h2⟩ := rx.tup e
    obtain ⟨b, ys, rfl, h3, h4⟩ := ry.tup e
    split at h
    · rename_i c
      cases h
      have fx : Rep K Hf (.tup i) (.ref a) := by
        rcases rx with rx | ⟨_, _, _, o⟩
        · exact rx
        · cases o
      have fy : Rep K Hf (.tup j) (.ref b) := by
        rcases ry with ry | ⟨_, _, _, o⟩
        · exact ry
        · cases o
      refine ⟨a, b, xs, ys, rfl, rfl, h1.sq, h3.sq, by rw [← h2.length, ← h4.length]; exact fits_le c, fun z => ?_, fun _ z => ?_, fun _ _ p n => ?_⟩
      · subst z; cases h2
        exact q _ Hf H (.refl e) fy
      · subst z; cases h4
        rw [List.append_nil] at q
        exact q _ Hf H (.refl e) fx
      · have ex := Ext.new (u := .tup (xs ++ ys)) e n
        exact q _ _ _ ex (.tup (.inl upd_same) ((h2.append h4).mono ex.ef))
    · cases h
  · cases h
end D

namespace D
open PySem PySem.Spec PyProof.Rows L2
/-! ### calls of any shape: values by place, keywords, defaults -/
/-- how a call binds: n values by place, the keywords ks; g puts these and the defaults in the parameters' order -/
noncomputable def Bn (K : PySem.W.Frag) (fd : FuncData) (ps : List Str) (n : Nat) (ks : List Str) (dvs : List V) (g : {α : Type} → List α → List α → List α → List α) : Prop :=
  ∃ ds : List Value, Vals dvs ds ∧ ∀ (s : Shared) (us ws : List Value), K.In s.heap → us.length = n → ws.length = ks.length → BindsTo s fd ⟨us, ks.zip ws⟩ (ps.zip (g us ws ds))
/-- g looks at no item -/
noncomputable def Par3 (g : {α : Type} → List α → List α → List α → List α) : Prop := ∀ {α β : Type} (R : α → β → Prop) {a b c : List α} {a' b' c' : List β}, Paired R a a' → Paired R b b' → Paired R c c' → Paired R (g a b c) (g a' b' c')
section
variable {X : Cx} {CX : CXT} {k n : Nat} {f C : Addr} {fd : FuncData} {ps ks : List Str} {sp : Sp} {x m : Str} {p pos apos : Pos} {e o : Expr} {es : List Expr} {kws : List Keyword} {t tk : TA} {ta : TE} {dvs : List V} {g : {α : Type} → List α → List α → List α → List α} {E : L2.St → XK}
theorem run_fnG {pins : List (Addr × Obj)} {σ : L2.St} {H : Hp} {s : Shared} {Q : VK} {us gl : List Value} {kw : List (Str × Value)} {gvs : List V} {E : XK} (F : FnOk X.prog X.w X.K X.mg X.base CX k f fd ps sp) (hr : Room k X.A) (hb : BindsTo s fd ⟨us, kw⟩ (ps.zip gl)) (hx : PassesAt CX X σ E)
    (I : Inv X pins σ H s) (r : Vals gvs gl) (h : sp gvs H Q E) : wpAny (model X.prog X.w) X.A (call (.ref f) us kw) (EP X pins σ Q) X.xe s := by
  refine wpAny_call (codeAny_mono (F.run X.A X.stack s H ⟨us, kw⟩ gl gvs Q E hr I.env0 hb r h) fun r s' hq => ?_)
  cases r with
  | error e => exact hx pins H s e s' I hq
  | ok fl =>
    cases fl with
    | ret u => exact I.after hq
    | next => exact False.elim hq
    | brk => exact False.elim hq
    | cont => exact False.elim hq
noncomputable def tFG (n m : Nat) (sp : Sp) (dvs : List V) (g : {α : Type} → List α → List α → List α → List α) (E : L2.St → XK) (t tk : TA) : TE := fun σ H Q => t σ H fun vs H1 => tk σ H1 fun zs H2 => vs.length = n ∧ zs.length = m ∧ sp (g vs zs dvs) H2 Q (E σ)
noncomputable def tMG (C : Addr) (m : Str) (n q : Nat) (sp : Sp) (dvs : List V) (g : {α : Type} → List α → List α → List α → List α) (E : L2.St → XK) (ta : TE) (t tk : TA) : TE := fun σ H Q => ta σ H fun x H1 => ∃ a dx fs, x = .ref a ∧ H1 a = some (.ins C dx fs) ∧ fs.lookup m = none ∧
  t σ H1 fun vs H2 => tk σ H2 fun zs H3 => vs.length + 1 = n ∧ zs.length = q ∧ sp (g (x :: vs) zs dvs) H3 Q (E σ)
noncomputable def tKG (C : Addr) (n q : Nat) (sp : Sp) (dvs : List V) (g : {α : Type} → List α → List α → List α → List α) (E : L2.St → XK) (t tk : TA) : TE := fun σ H Q => t σ H fun vs H1 => tk σ H1 fun zs H2 => vs.length + 1 = n ∧ zs.length = q ∧ ∀ x dx, H2 x = none → H2 dx = none → dx ≠ x →
  sp (g (.ref x :: vs) zs dvs) (upd (upd H2 dx (.own x)) x (.ins C dx [])) (fun v H3 => v = .non ∧ Q (.ref x) H3) (E σ)
/-- f(k = v, ..) and f(e, .., k = v, ..) -/
theorem pe_fG0 (F : FnOk X.prog X.w X.K X.mg X.base CX k f fd ps sp) (hr : Room k X.A) (hg : Gl X x) (hm : X.mg x = some (.ref f)) (hk : PySem.W.keepIn X.K (.ref f) = true) (hb : Bn X.K fd ps n ks dvs g) (hp : Par3 g) (hx : ∀ σ, PassesAt CX X σ (E σ)) (hkw : PK X kws tk)
    (hall : (backToKw pos (keywordEach kws X.env)).all (·.1.isSome) = true := by rfl) (hks : (backToKw pos (keywordEach kws X.env)).filterMap (·.1) = ks := by rfl) (hdb : (x == ("__debug__" : Str)) = false := by decide)
    (hpl : ((backTo pos (starEach [] X.env)).any (·.1) || (backToKw pos (keywordEach kws X.env)).any (·.1.isNone)) = false := by rfl) :
    PE X (.Call (.Name x p) [] kws pos) (tFG n ks.length sp dvs g E tNil tk) := by
  obtain ⟨ds, hd, hb⟩ := hb
  refine ⟨fun pins s σ H Q I h => ?_⟩
  refine wpAny_Call_Name_kw (ld_glob I hg hm ?_ hdb)
  refine PySem.W.callWith_KW0 (h₀ := X.base) I.ok.mod.kin hk hall ?_ hpl
  refine thn (hkw.run pos pins s σ H _ I h) fun ws s2 ⟨zs, H2, I2, rz, l1, l2, q2⟩ => ⟨I2.kIn, ?_⟩
  rw [hks]
  exact run_fnG F hr (hb s2 [] ws I2.kIn l1 (rz.length.symm.trans l2)) (hx σ) I2 (hp RelV .nil rz hd) q2
theorem pe_fG1 (F : FnOk X.prog X.w X.K X.mg X.base CX k f fd ps sp) (hr : Room k X.A) (hg : Gl X x) (hm : X.mg x = some (.ref f)) (hk : PySem.W.keepIn X.K (.ref f) = true) (hb : Bn X.K fd ps n ks dvs g) (hp : Par3 g) (hx : ∀ σ, PassesAt CX X σ (E σ)) (ha : PA X (e :: es) t) (hkw : PK X kws tk)
    (hall : (backToKw pos (keywordEach kws X.env)).all (·.1.isSome) = true := by rfl) (hks : (backToKw pos (keywordEach kws X.env)).filterMap (·.1) = ks := by rfl) (hdb : (x == ("__debug__" : Str)) = false := by decide)
    (he : starEach (e :: es) X.env = (false, eval e X.env) :: starEach es X.env := by rfl) (hpl : ((backTo pos (starEach (e :: es) X.env)).any (·.1) || (backToKw pos (keywordEach kws X.env)).any (·.1.isNone)) = false := by rfl) :
    PE X (.Call (.Name x p) (e :: es) kws pos) (tFG n ks.length sp dvs g E t tk) := by
  obtain ⟨ds, hd, hb⟩ := hb
  refine ⟨fun pins s σ H Q I h => ?_⟩
  refine wpAny_Call_Name_kw (ld_glob I hg hm ?_ hdb)
  refine PySem.W.callWith_KW (h₀ := X.base) I.ok.mod.kin hk hall (thn (ha.run pos pins s σ H _ I h) fun us s1 ⟨vs, H1, I1, r, q⟩ => ?_) hpl he
  refine thn (hkw.run pos pins s1 σ H1 _ I1 q) fun ws s2 ⟨zs, H2, I2, rz, l1, l2, q2⟩ => ⟨I2.kIn, ?_⟩
  rw [hks]
  exact run_fnG F hr (hb s2 us ws I2.kIn (r.length.symm.trans l1) (rz.length.symm.trans l2)) (hx σ) I2 (hp RelV r rz hd) q2
/-- o.m(k = v, ..) and o.m(e, .., k = v, ..) -/
theorem pe_mG0 {pl : Sem Bool} (he : PE X o ta) (c : Cls X.K C) (hm : Meth X.K C m f) (F : FnOk X.prog X.w X.K X.mg X.base CX k f fd ps sp) (hr : Room k X.A) (hb : Bn X.K fd ps n ks dvs g) (hp : Par3 g) (hx : ∀ σ, PassesAt CX X σ (E σ)) (hkw : PK X kws tk)
    (hall : (backToKw pos (keywordEach kws X.env)).all (·.1.isSome) = true := by rfl) (hks : (backToKw pos (keywordEach kws X.env)).filterMap (·.1) = ks := by rfl)
    (hpl : ((backTo pos (starEach [] X.env)).any (·.1) || (backToKw pos (keywordEach kws X.env)).any (·.1.isNone)) = false := by rfl)
    (ht : eval (.Call (.Attribute o m apos) [] kws pos) X.env = (do
      let ov ← eval o X.env
      standAt apos.atName
      let (f, first) ← holding [ov] (getMethod ov m pl)
      callWith pos f first (backTo pos (starEach [] X.env)) (backToKw pos (keywordEach kws X.env))) := by rfl) :
    PE X (.Call (.Attribute o m apos) [] kws pos) (tMG C m n ks.length sp dvs g E ta tNil tk) := by
  obtain ⟨ds, hd, hb⟩ := hb
  refine ⟨fun pins s σ H Q I h => ?_⟩
  refine PySem.W.methodCall_KW (pl := pl) (thn (he.run pins s σ H _ I h) fun u s1 ⟨x, H1, I1, rx, a, dx, fs, ex, ea, l, q⟩ => ?_) ht
  subst ex
  obtain rfl : u = Value.ref a := rx
  refine getmeth_ok I1 ea c hm l ?_
  refine PySem.W.callWith_KW0 (first := [.ref a]) (h₀ := X.base) I.ok.mod.kin hm.kp hall ?_ hpl
  refine thn (hkw.run pos pins s1 σ H1 _ I1 q) fun ws s2 ⟨zs, H2, I2, rz, l1, l2, q2⟩ => ⟨I2.kIn, ?_⟩
  rw [hks]
  exact run_fnG (us := [.ref a]) F hr (hb s2 [.ref a] ws I2.kIn l1 (rz.length.symm.trans l2)) (hx σ) I2 (hp RelV (show Vals [V.ref a] [Value.ref a] from .cons rfl .nil) rz hd) q2
theorem pe_mG1 {pl : Sem Bool} (he : PE X o ta) (c : Cls X.K C) (hm : Meth X.K C m f) (F : FnOk X.prog X.w X.K X.mg X.base CX k f fd ps sp) (hr : Room k X.A) (hb : Bn X.K fd ps n ks dvs g) (hp : Par3 g) (hx : ∀ σ, PassesAt CX X σ (E σ)) (ha : PA X (e :: es) t) (hkw : PK X kws tk)
    (hall : (backToKw pos (keywordEach kws X.env)).all (·.1.isSome) = true := by rfl) (hks : (backToKw pos (keywordEach kws X.env)).filterMap (·.1) = ks := by rfl)
    (hst : starEach (e :: es) X.env = (false, eval e X.env) :: starEach es X.env := by rfl) (hpl : ((backTo pos (starEach (e :: es) X.env)).any (·.1) || (backToKw pos (keywordEach kws X.env)).any (·.1.isNone)) = false := by rfl)
    (ht : eval (.Call (.Attribute o m apos) (e :: es) kws pos) X.env = (do
      let ov ← eval o X.env
      standAt apos.atName
      let (f, first) ← holding [ov] (getMethod ov m pl)
      callWith pos f first (backTo pos (starEach (e :: es) X.env)) (backToKw pos (keywordEach kws X.env))) := by rfl) :
    PE X (.Call (.Attribute o m apos) (e :: es) kws pos) (tMG C m n ks.length sp dvs g E ta t tk) := by
  obtain ⟨ds, hd, hb⟩ := hb
  refine ⟨fun pins s σ H Q I h => ?_⟩
  refine PySem.W.methodCall_KW (pl := pl) (thn (he.run pins s σ H _ I h) fun u s1 ⟨x, H1, I1, rx, a, dx, fs, ex, ea, l, q⟩ => ?_) ht
  subst ex
  obtain rfl : u = Value.ref a := rx
  refine getmeth_ok I1 ea c hm l ?_
  refine PySem.W.callWith_KW (first := [.ref a]) (h₀ := X.base) I.ok.mod.kin hm.kp hall (thn (ha.run pos pins s1 σ H1 _ I1 q) fun us s2 ⟨vs, H2, I2, r, q⟩ => ?_) hpl hst
  refine thn (hkw.run pos pins s2 σ H2 _ I2 q) fun ws s3 ⟨zs, H3, I3, rz, l1, l2, q2⟩ => ⟨I3.kIn, ?_⟩
  rw [hks]
  exact run_fnG (us := .ref a :: us) F hr (hb s3 (.ref a :: us) ws I3.kIn (by rw [List.length_cons, ← r.length]; exact l1) (rz.length.symm.trans l2)) (hx σ) I3 (hp RelV (show Vals (V.ref a :: vs) (Value.ref a :: us) from .cons rfl r) rz hd) q2
/-- C(..) -/
theorem run_makeG {pins : List (Addr × Obj)} {σ : L2.St} {H : Hp} {s : Shared} {Q : VK} {us ws : List Value} {vs zs : List V} {E : XK} (M : Mk X.K C f) (F : FnOk X.prog X.w X.K X.mg X.base CX k f fd ps sp) (hr : Room (k + 1) X.A) (hb : Bn X.K fd ps n ks dvs g) (hp : Par3 g) (hx : PassesAt CX X σ E)
    (I : Inv X pins σ H s) (r : Vals vs us) (rz : Vals zs ws) (l1 : vs.length + 1 = n) (l2 : zs.length = ks.length)
    (h : ∀ x dx, H x = none → H dx = none → dx ≠ x → sp (g (.ref x :: vs) zs dvs) (upd (upd H dx (.own x)) x (.ins C dx [])) (fun v H2 => v = .non ∧ Q (.ref x) H2) E) :
    wpAny (model X.prog X.w) X.A (call (.ref C) us (ks.zip ws)) (EP X pins σ Q) X.xe s := by
  obtain ⟨ds, hd, hb⟩ := hb
  have hq := h (s.heap.objs.size + 1) s.heap.objs.size (I.hok.fresh (Nat.le_succ _)) (I.hok.fresh (Nat.le_refl _)) (Nat.ne_of_lt (Nat.lt_succ_self _))
  have I2 := Inv.made (C := C) I
  have r1 : Vals (V.ref (s.heap.objs.size + 1) :: vs) (Value.ref (s.heap.objs.size + 1) :: us) := .cons rfl r
  have r2 := hp RelV r1 rz hd
  have n1 : (Value.ref (s.heap.objs.size + 1) :: us).length = n := by
    rw [List.length_cons, ← r.length, l1]
  refine wpAny_call (make_map (f := f) I.kIn M.makes M.init (beq_iff_eq.mp M.fn) (codeAny_mono (F.run _ X.stack _ _ ⟨Value.ref (s.heap.objs.size + 1) :: us, ks.zip ws⟩ (g (Value.ref (s.heap.objs.size + 1) :: us) ws ds) _ _ E (hr.make C us (ks.zip ws))
    (I2.env0.make C us (ks.zip ws)) (hb _ (Value.ref (s.heap.objs.size + 1) :: us) ws I2.kIn n1 (rz.length.symm.trans l2)) r2 hq) fun r s' hq' => ?_))
  cases r with
  | error e => exact hx pins _ _ e s' I2 hq'
  | ok fl =>
    cases fl with
    | ret u =>
      obtain ⟨v, H', I3, rv, ev, q3⟩ := I2.after hq'
      subst ev
      exact ⟨rv, ⟨V.ref (s.heap.objs.size + 1), H', I3, rfl, q3⟩⟩
    | next => exact False.elim hq'
    | brk => exact False.elim hq'
    | cont => exact False.elim hq'
theorem pe_kG0 (M : Mk X.K C f) (F : FnOk X.prog X.w X.K X.mg X.base CX k f fd ps sp) (hr : Room (k + 1) X.A) (hg : Gl X x) (hm : X.mg x = some (.ref C)) (hb : Bn X.K fd ps n ks dvs g) (hp : Par3 g) (hx : ∀ σ, PassesAt CX X σ (E σ)) (hkw : PK X kws tk)
    (hall : (backToKw pos (keywordEach kws X.env)).all (·.1.isSome) = true := by rfl) (hks : (backToKw pos (keywordEach kws X.env)).filterMap (·.1) = ks := by rfl) (hdb : (x == ("__debug__" : Str)) = false := by decide)
    (hpl : ((backTo pos (starEach [] X.env)).any (·.1) || (backToKw pos (keywordEach kws X.env)).any (·.1.isNone)) = false := by rfl) :
    PE X (.Call (.Name x p) [] kws pos) (tKG C n ks.length sp dvs g E tNil tk) := by
  refine ⟨fun pins s σ H Q I h => ?_⟩
  refine wpAny_Call_Name_kw (ld_glob I hg hm ?_ hdb)
  refine PySem.W.callWith_KW0 (h₀ := X.base) I.ok.mod.kin M.kp hall ?_ hpl
  refine thn (hkw.run pos pins s σ H _ I h) fun ws s2 ⟨zs, H2, I2, rz, l1, l2, q2⟩ => ⟨I2.kIn, ?_⟩
  rw [hks]
  exact run_makeG (us := []) (vs := []) M F hr hb hp (hx σ) I2 .nil rz l1 l2 q2
theorem pe_kG1 (M : Mk X.K C f) (F : FnOk X.prog X.w X.K X.mg X.base CX k f fd ps sp) (hr : Room (k + 1) X.A) (hg : Gl X x) (hm : X.mg x = some (.ref C)) (hb : Bn X.K fd ps n ks dvs g) (hp : Par3 g) (hx : ∀ σ, PassesAt CX X σ (E σ)) (ha : PA X (e :: es) t) (hkw : PK X kws tk)
    (hall : (backToKw pos (keywordEach kws X.env)).all (·.1.isSome) = true := by rfl) (hks : (backToKw pos (keywordEach kws X.env)).filterMap (·.1) = ks := by rfl) (hdb : (x == ("__debug__" : Str)) = false := by decide)
    (he : starEach (e :: es) X.env = (false, eval e X.env) :: starEach es X.env := by rfl) (hpl : ((backTo pos (starEach (e :: es) X.env)).any (·.1) || (backToKw pos (keywordEach kws X.env)).any (·.1.isNone)) = false := by rfl) :
    PE X (.Call (.Name x p) (e :: es) kws pos) (tKG C n ks.length sp dvs g E t tk) := by
  refine ⟨fun pins s σ H Q I h => ?_⟩
  refine wpAny_Call_Name_kw (ld_glob I hg hm ?_ hdb)
  refine PySem.W.callWith_KW (h₀ := X.base) I.ok.mod.kin M.kp hall (thn (ha.run pos pins s σ H _ I h) fun us s1 ⟨vs, H1, I1, r, q⟩ => ?_) hpl he
  refine thn (hkw.run pos pins s1 σ H1 _ I1 q) fun ws s2 ⟨zs, H2, I2, rz, l1, l2, q2⟩ => ⟨I2.kIn, ?_⟩
  rw [hks]
  exact run_makeG M F hr hb hp (hx σ) I2 r rz l1 l2 q2
end
end D

namespace D
open PySem L2
/-! ### arguments as pairs -/
noncomputable def AiR (K : PySem.W.Frag) (Hf : Hp) (σ : St) : Ai → V → Prop
  | .va d, v => Rep K Hf d v
  | .io i, v => σ[i]? = some (some v)
theorem Ais.pr {K : PySem.W.Frag} {Hf : Hp} {σ : St} : ∀ {its : List Ai} {vs : List V}, Ais K Hf σ its vs → Paired (AiR K Hf σ) its vs
  | _, _, .nil => .nil
  | _, _, .va h r => .cons h r.pr
  | _, _, .io h r => .cons h r.pr
theorem Ais.of {K : PySem.W.Frag} {Hf : Hp} {σ : St} : ∀ {its : List Ai} {vs : List V}, Paired (AiR K Hf σ) its vs → Ais K Hf σ its vs
  | _, _, .nil => .nil
  | .va _ :: _, _, .cons h r => .va h (Ais.of r)
  | .io _ :: _, _, .cons h r => .io h (Ais.of r)
theorem reps_pr {K : PySem.W.Frag} {Hf : Hp} {σ : St} {dds : List Dat} {dvs : List V} (r : Reps K Hf dds dvs) : Paired (AiR K Hf σ) (dds.map .va) dvs := by
  have := (Ais.app (σ := σ) (its := []) (vs := []) .nil r).pr
  simpa using this
/-- one item, as a list -/
noncomputable def nth1 {α : Type} (i : Nat) (l : List α) : List α := (l.drop i).take 1
theorem nth1_z {α : Type} {a : α} {l : List α} : nth1 0 (a :: l) = [a] := rfl
theorem nth1_s {α : Type} {i : Nat} {a : α} {l : List α} : nth1 (i + 1) (a :: l) = nth1 i l := rfl
theorem nth1_1 {α : Type} {a b : α} {l : List α} : nth1 1 (a :: b :: l) = [b] := rfl
theorem nth1_2 {α : Type} {a b c : α} {l : List α} : nth1 2 (a :: b :: c :: l) = [c] := rfl
theorem nth1_3 {α : Type} {a b c d : α} {l : List α} : nth1 3 (a :: b :: c :: d :: l) = [d] := rfl
section
variable {α β : Type} {R : α → β → Prop}
theorem pr_drop : ∀ {a : List α} {b : List β} (n : Nat), Paired R a b → Paired R (a.drop n) (b.drop n)
  | _, _, 0, r => r
  | _, _, _ + 1, .nil => .nil
  | _, _, n + 1, .cons _ r => pr_drop n r
theorem pr_take : ∀ {a : List α} {b : List β} (n : Nat), Paired R a b → Paired R (a.take n) (b.take n)
  | _, _, 0, _ => .nil
  | _, _, _ + 1, .nil => .nil
  | _, _, n + 1, .cons h r => .cons h (pr_take n r)
theorem pr_app : ∀ {a c : List α} {b d : List β}, Paired R a b → Paired R c d → Paired R (a ++ c) (b ++ d)
  | _, _, _, _, .nil, s => s
  | _, _, _, _, .cons h r, s => .cons h (pr_app r s)
theorem pr_nth {a : List α} {b : List β} (i : Nat) (r : Paired R a b) : Paired R (nth1 i a) (nth1 i b) := pr_take 1 (pr_drop i r)
end
/-- the arrangement of a call, its sizes looked at -/
noncomputable def arr2 (n q : Nat) (g : {α : Type} → List α → List α → List α → List α) (dds : List Dat) (its kits : List Ai) : Option (List Ai) := if its.length = n ∧ kits.length = q then some (g its kits (dds.map .va)) else none
theorem arr2_some {n q : Nat} {g : {α : Type} → List α → List α → List α → List α} {dds : List Dat} {its kits l : List Ai} (h : arr2 n q g dds its kits = some l) : its.length = n ∧ kits.length = q ∧ l = g its kits (dds.map .va) := by
  unfold arr2 at h
  split at h
  · rename_i z; cases h; exact ⟨z.1, z.2, rfl⟩
  · cases h
section
variable {X : Cx} {W : WX} {np : Nat} {a b c e o : Expr} {es : List Expr} {pos apos p kpos : Pos} {ma mb mc : M Dat} {ms mk : M (List Ai)} {k n n1 : Nat} {f : Addr} {fd : FuncData} {ps ks : List Str} {F : M Sl} {x m : Str} {kws : List Keyword} {nm : Option Str}
  {dvs : List V} {dds : List Dat} {g : {α : Type} → List α → List α → List α → List α}
noncomputable abbrev DK (X : Cx) (W : WX) (np : Nat) (kws : List Keyword) (m : M (List Ai)) : Prop := PK X kws (rdA X.K np W m)
theorem PK.wk {X : Cx} {kws : List Keyword} {t t' : TA} (h : PK X kws t) (w : ∀ σ H Q, t' σ H Q → t σ H Q) : PK X kws t' := ⟨fun pos pins s σ H Q I q => h.run pos pins s σ H Q I (w σ H Q q)⟩
theorem dk_nil : DK X W np [] (ret []) := PK.wk pk_nil fun σ H Q ⟨Hf, η, R, p⟩ => p Hf H σ R .refl rfl [] .nil
theorem dk_cons (h : DE X W np e ma) (hr : DK X W np kws mk) : DK X W np (⟨nm, e, kpos⟩ :: kws) (bnd ma fun d => bnd mk fun l => ret (.va d :: l)) := by
  refine PK.wk (pk_cons h hr) fun σ H Q ⟨Hf, η, R, p⟩ => ⟨Hf, η, R, p.bnd fun d Hf1 H1 η1 σ1 R1 S1 p1 e1 v rv => ?_⟩
  subst e1
  refine ⟨Hf1, η1, R1, p1.bnd fun l Hf2 H2 η2 σ2 R2 S2 p2 e2 vs rvs => ?_⟩
  subst e2
  exact p2.ret R2 rfl (v :: vs) (.va (rv.mono S2.ef) rvs)
theorem Ais.length' {K : PySem.W.Frag} {Hf : Hp} {σ : St} {its : List Ai} {vs : List V} (A : Ais K Hf σ its vs) : vs.length = its.length := A.len.symm
/-- how a def is called -/
noncomputable def Cl (P : Program) (w : World) (K : PySem.W.Frag) (mg : Str → Option Value) (base : Heap) (k : Nat) (p : Str × Option Str) (n : Nat) (F : M Sl) (n1 : Nat) (ks : List Str) (dds : List Dat) (g : {α : Type} → List α → List α → List α → List α) : Prop :=
  ∃ fd ps dvs, FnOk P w K mg base (L2N.CX P w) k (He.fAd K p) fd ps (spD K n F) ∧ Bn K fd ps n1 ks dvs g ∧ (∀ Hf, Reps K Hf dds dvs) ∧ PySem.W.keepIn K (.ref (He.fAd K p)) = true
theorem Cl.mono {P : Program} {w : World} {K : PySem.W.Frag} {mg : Str → Option Value} {base : Heap} {j k : Nat} {p : Str × Option Str} {n n1 : Nat} {F : M Sl} {ks : List Str} {dds : List Dat} {g : {α : Type} → List α → List α → List α → List α} (h : Cl P w K mg base j p n F n1 ks dds g) (hj : j ≤ k) : Cl P w K mg base k p n F n1 ks dds g := by
  obtain ⟨fd, ps, dvs, h1, h2⟩ := h
  exact ⟨fd, ps, dvs, h1.mono hj, h2⟩
noncomputable abbrev callGE (n1 q n : Nat) (F : M Sl) (g : {α : Type} → List α → List α → List α → List α) (dds : List Dat) (ms mk : M (List Ai)) : M Dat := bnd ms fun its => bnd mk fun kits => bnd (lft (arr2 n1 q g dds its kits)) fun l => bnd (callF n F l) fun r => lft (dRes r)
noncomputable abbrev callGO (n1 q n : Nat) (F : M Sl) (g : {α : Type} → List α → List α → List α → List α) (dds : List Dat) (ms mk : M (List Ai)) : M Dat := bnd ms fun its => bnd mk fun kits => bnd (lft (arr2 n1 q g dds its kits)) fun l => bnd (callF n F l) fun r => lft (oRes r)
/-- f(..) -/
theorem de_fG1 (T : Cl X.prog X.w X.K X.mg X.base k (x, none) n F n1 ks dds g) (hp : Par3 g) (hm : X.mg x = some (.ref (He.ga X.K x))) (hr : Room k X.A) (hg : Gl X x) (tk : L2N.Takes X W) (ha : DA X W np (e :: es) ms) (hk : DK X W np kws mk)
    (hall : (backToKw pos (keywordEach kws X.env)).all (·.1.isSome) = true := by rfl) (hks : (backToKw pos (keywordEach kws X.env)).filterMap (·.1) = ks := by rfl) (hdb : (x == ("__debug__" : Str)) = false := by decide)
    (he : starEach (e :: es) X.env = (false, eval e X.env) :: starEach es X.env := by rfl) (hpl : ((backTo pos (starEach (e :: es) X.env)).any (·.1) || (backToKw pos (keywordEach kws X.env)).any (·.1.isNone)) = false := by rfl) :
    DE X W np (.Call (.Name x p) (e :: es) kws pos) (callGE n1 ks.length n F g dds ms mk) := by
  obtain ⟨fd, ps, dvs, h1, h2, h3, h4⟩ := T
  refine PE.wk (pe_lk (pe_fG1 (E := WE W) h1 hr hg hm h4 h2 hp (L2N.passAt tk) ha hk hall hks hdb he hpl)) fun σ H Q ⟨Hf, η, R, p⟩ => ⟨Hf, η, R, p.bnd fun its Hf1 H1 η1 σ1 R1 S1 p1 e1 vs rvs => ?_⟩
  subst e1
  refine ⟨Hf1, η1, R1, p1.bnd fun kits Hf2 H2 η2 σ2 R2 S2 p2 e2 zs rzs => ?_⟩
  subst e2
  obtain ⟨l, hl, p3⟩ := p2.bndL
  obtain ⟨g1, g2, rfl⟩ := arr2_some hl
  have A : Ais X.K Hf2 σ2 (g its kits (dds.map .va)) (g vs zs dvs) := .of (hp _ (rvs.mono S2.ef).pr rzs.pr (reps_pr (h3 Hf2)))
  exact ⟨by rw [rvs.length']; exact g1, by rw [rzs.length']; exact g2, rd_call R2 A p3⟩
theorem do_fG1 (T : Cl X.prog X.w X.K X.mg X.base k (x, none) n F n1 ks dds g) (hp : Par3 g) (hm : X.mg x = some (.ref (He.ga X.K x))) (hr : Room k X.A) (hg : Gl X x) (tk : L2N.Takes X W) (ha : DA X W np (e :: es) ms) (hk : DK X W np kws mk)
    (hall : (backToKw pos (keywordEach kws X.env)).all (·.1.isSome) = true := by rfl) (hks : (backToKw pos (keywordEach kws X.env)).filterMap (·.1) = ks := by rfl) (hdb : (x == ("__debug__" : Str)) = false := by decide)
    (he : starEach (e :: es) X.env = (false, eval e X.env) :: starEach es X.env := by rfl) (hpl : ((backTo pos (starEach (e :: es) X.env)).any (·.1) || (backToKw pos (keywordEach kws X.env)).any (·.1.isNone)) = false := by rfl) :
    DO X W np (.Call (.Name x p) (e :: es) kws pos) (callGO n1 ks.length n F g dds ms mk) := by
  obtain ⟨fd, ps, dvs, h1, h2, h3, h4⟩ := T
  refine PE.wk (pe_fG1 (E := WE W) h1 hr hg hm h4 h2 hp (L2N.passAt tk) ha hk hall hks hdb he hpl) fun σ H Q ⟨Hf, η, R, p⟩ => ⟨Hf, η, R, p.bnd fun its Hf1 H1 η1 σ1 R1 S1 p1 e1 vs rvs => ?_⟩
  subst e1
  refine ⟨Hf1, η1, R1, p1.bnd fun kits Hf2 H2 η2 σ2 R2 S2 p2 e2 zs rzs => ?_⟩
  subst e2
  obtain ⟨l, hl, p3⟩ := p2.bndL
  obtain ⟨g1, g2, rfl⟩ := arr2_some hl
  have A : Ais X.K Hf2 σ2 (g its kits (dds.map .va)) (g vs zs dvs) := .of (hp _ (rvs.mono S2.ef).pr rzs.pr (reps_pr (h3 Hf2)))
  exact ⟨by rw [rvs.length']; exact g1, by rw [rzs.length']; exact g2, rd_callO R2 A (fun p z => (z.from S2).from S1) p3⟩
theorem de_fG0 (T : Cl X.prog X.w X.K X.mg X.base k (x, none) n F n1 ks dds g) (hp : Par3 g) (hm : X.mg x = some (.ref (He.ga X.K x))) (hr : Room k X.A) (hg : Gl X x) (tk : L2N.Takes X W) (hk : DK X W np kws mk)
    (hall : (backToKw pos (keywordEach kws X.env)).all (·.1.isSome) = true := by rfl) (hks : (backToKw pos (keywordEach kws X.env)).filterMap (·.1) = ks := by rfl) (hdb : (x == ("__debug__" : Str)) = false := by decide)
    (hpl : ((backTo pos (starEach [] X.env)).any (·.1) || (backToKw pos (keywordEach kws X.env)).any (·.1.isNone)) = false := by rfl) :
    DE X W np (.Call (.Name x p) [] kws pos) (callGE n1 ks.length n F g dds (ret []) mk) := by
  obtain ⟨fd, ps, dvs, h1, h2, h3, h4⟩ := T
  refine PE.wk (pe_lk (pe_fG0 (E := WE W) h1 hr hg hm h4 h2 hp (L2N.passAt tk) hk hall hks hdb hpl)) fun σ H Q ⟨Hf, η, R, p⟩ => ?_
  refine ⟨Hf, η, R, Pst.bnd (m := mk) p fun kits Hf2 H2 η2 σ2 R2 S2 p2 e2 zs rzs => ?_⟩
  subst e2
  obtain ⟨l, hl, p3⟩ := p2.bndL
  obtain ⟨g1, g2, rfl⟩ := arr2_some hl
  have A : Ais X.K Hf2 σ2 (g [] kits (dds.map .va)) (g [] zs dvs) := .of (hp _ .nil rzs.pr (reps_pr (h3 Hf2)))
  exact ⟨g1, by rw [rzs.length']; exact g2, rd_call R2 A p3⟩
/-! ### fields of objects -/
theorem RepF.lookup {K : PySem.W.Frag} {H : Hp} (f : Str) : ∀ {l : List (Str × Dat)} {xs : List (Str × V)}, RepF K H l xs → (l.lookup f = none → xs.lookup f = none) ∧ ∀ d, l.lookup f = some d → ∃ v, xs.lookup f = some v ∧ Rep K H d v
  | _, _, .nil => ⟨fun _ => rfl, fun d h => by cases h⟩
  | (k, d0) :: l, _, .cons (x := x0) h r => by
    obtain ⟨i1, i2⟩ := RepF.lookup f r
    rw [List.lookup_cons, List.lookup_cons]
    cases (f == k) with
    | true => exact ⟨fun z => (by cases z), fun d z => (by cases z; exact ⟨x0, rfl, h⟩)⟩
    | false => exact ⟨i1, i2⟩
noncomputable def oGet (c f : Str) : Dat → Option Dat
  | .obj c' l => if c' = c then l.lookup f else none
  | _ => none
noncomputable def oHas (c m : Str) : Dat → Option Unit
  | .obj c' l => if c' = c ∧ l.lookup m = none then some () else none
  | _ => none
theorem RepP.obj {K : PySem.W.Frag} {Hf H : Hp} {v : V} {c : Str} {l : List (Str × Dat)} (e : Same Hf H) (r : RepP K Hf H (.obj c l) v) : ∃ a dx xs, v = .ref a ∧ H a = some (.ins (He.ga K c) dx xs) ∧ RepF K Hf l xs := by
  rcases r with r | ⟨a, F, rfl, r⟩
  · cases r with | obj h r => exact ⟨_, _, _, rfl, e _ _ h, r⟩
  · cases r with | obj h r => exact ⟨_, _, _, rfl, h, r⟩
noncomputable abbrev fldE (c f : Str) (a : M Dat) : M Dat := bnd a fun x => lft (oGet c f x)
theorem de_fld {c f : Str} (hcl : Cls X.K (He.ga X.K c)) (hn : NoAttr X.K (He.ga X.K c) f) (h : DP X W np e ma) (hb : attributeBase e f X.env (eval e X.env) = eval e X.env := by rfl) : DE X W np (.Attribute e f pos) (fldE c f ma) := by
  refine PE.wk (pe_fld h hb) fun σ H Q ⟨Hf, η, R, p⟩ => ⟨Hf, η, R, p.bnd fun d Hf1 H1 η1 σ1 R1 S1 p1 e1 v rv => ?_⟩
  subst e1
  obtain ⟨z, hz, q⟩ := p1.lft R1
  unfold oGet at hz
  split at hz
  · split at hz
    · rename_i hc
      subst hc
      obtain ⟨a, dx, xs, rfl, h1, h2⟩ := rv.obj R1.ex
      obtain ⟨u, h3, h4⟩ := (h2.lookup f).2 _ hz
      exact ⟨a, _, dx, xs, u, rfl, h1, hcl, hn, h3, q Hf1 H1 (.refl R1.ex) rfl u h4⟩
    · cases hz
  · cases hz
/-- the fields behind x.f = v -/
noncomputable def putF' (f : Str) (v : Dat) : List (Str × Dat) → List (Str × Dat)
  | [] => [(f, v)]
  | (g, x) :: l => if g = f then (g, v) :: l else (g, x) :: putF' f v l
end
end D

namespace D
open PySem L2
theorem RepF.put {K : PySem.W.Frag} {H : Hp} {f : Str} {d : Dat} {v : V} (h : Rep K H d v) : ∀ {l : List (Str × Dat)} {xs : List (Str × V)}, RepF K H l xs → RepF K H (putF' f d l) (putF f v xs)
  | _, _, .nil => .cons h .nil
  | (k, d0) :: l, _, .cons h0 r => by
    unfold putF' putF
    split
    · exact .cons h r
    · exact .cons h0 (r.put h)
theorem RepF.length {K : PySem.W.Frag} {H : Hp} : ∀ {l : List (Str × Dat)} {xs : List (Str × V)}, RepF K H l xs → l.length = xs.length
  | _, _, .nil => rfl
  | _, _, .cons _ r => congrArg (· + 1) r.length
theorem bnd_bnd {α β γ : Type} {m : M α} {f : α → M β} {g : β → M γ} : D.bnd (D.bnd m f) g = D.bnd m fun a => D.bnd (f a) g := by
  funext η
  unfold D.bnd
  cases m η <;> rfl
noncomputable def oPut (c f : Str) (v : Dat) : Dat → Option Dat
  | .obj c' l => if c' = c ∧ l.length < 1000 then some (.obj c' (putF' f v l)) else none
  | _ => none
section
variable {X : Cx} {W : WX} {np : Nat} {a b c e o : Expr} {es : List Expr} {pos pos' apos p kpos px : Pos} {ma mb mc : M Dat} {ms mk : M (List Ai)} {k n n1 : Nat} {F : M Sl} {x m : Str} {ks : List Str} {kws : List Keyword} {nm : Option Str}
  {dvs : List V} {dds : List Dat} {g : {α : Type} → List α → List α → List α → List α} {cn f : Str}
/-- x.f = v, x a name that owns an object -/
noncomputable abbrev sFldE (i : Nat) (c f : Str) (a : M Dat) : M Out := bnd a fun v => bnd (owSet i (oPut c f v)) fun _ => ret .nx
theorem ds_fld (i : Nat) (h : PE X (.Name x px) (tVar i)) (hcl : Cls X.K (He.ga X.K cn)) (hn : NoAttr X.K (He.ga X.K cn) f) (hv : DE X W np e ma) (hs : swapsWith e (some (.Attribute (.Name x px) f pos')) pos.line X.env = pure false := by rfl) :
    DS X W np (.Assign [.Attribute (.Name x px) f pos'] e pos) (sFldE i cn f ma) := by
  refine PS.wk (ps_fld h hv hs) fun E σ H ⟨Hf, η, R, p⟩ => ⟨Hf, η, R, p.bnd fun d Hf2 H2 η2 σ2 R2 S2 p3 e2 v rv => ?_⟩
  subst e2
  unfold bnd owSet at p3
  split at p3
  · rename_i u η' hu
    split at hu
    · rename_i dd hd
      obtain ⟨aa, Fo, g1, g3, g2⟩ := R2.ow i dd hd
      split at hu
      · rename_i d' hd'
        cases hu
        unfold oPut at hd'
        split at hd'
        · split at hd'
          · rename_i hc
            obtain ⟨rfl, hl⟩ := hc
            cases hd'
            cases g3 with
            | obj k1 k2 =>
              rename_i xs
              refine ⟨.ref aa, g1, aa, _, _, xs, rfl, k1, hcl, hn, by rw [← k2.length]; exact hl, ?_⟩
              obtain ⟨r4, s4⟩ := Rl.write (np := np) (u := .ins _ _ (putF f v xs)) R2 hd g1 (.obj k1 k2) (.obj upd_same (k2.put rv))
              exact p3 Hf2 _ σ2 r4 s4
          · cases hd'
        · cases hd'
      · cases hu
    · cases hu
  · rename_i x0 η' hu
    split at hu
    · split at hu <;> cases hu
    · cases hu
  · exact False.elim p3
/-- x.f += n, whole numbers -/
noncomputable abbrev sFldAddE (i : Nat) (c f : Str) (a : M Dat) : M Out := bnd (fldE c f (mPeek i)) fun y => bnd (lft (dInt y)) fun j => bnd a fun v => bnd (lft (dInt v)) fun k => bnd (owSet i (oPut c f (.int (j + k)))) fun _ => ret .nx
theorem ds_fldadd {tpos : Pos} (i : Nat) (h : PE X (.Name x px) (tVar i)) (hcl : Cls X.K (He.ga X.K cn)) (hn : NoAttr X.K (He.ga X.K cn) f) (hv : DE X W np e ma) :
    DS X W np (.AugAssign (.Attribute (.Name x px) f tpos) .Add e pos) (sFldAddE i cn f ma) := by
  refine PS.wk (ps_fldaug h hv in_add) fun E σ H ⟨Hf, η, R, p⟩ => ?_
  have p' : Pst X.K np W Hf H η σ (endS X.K Hf H η σ E) (bnd (mPeek i) (fun x => bnd (lft (oGet cn f x)) fun y => bnd (lft (dInt y)) fun j => bnd ma fun v => bnd (lft (dInt v)) fun k => bnd (owSet i (oPut cn f (.int (j + k)))) fun _ => ret .nx) η) := by
    rw [← bnd_bnd]; exact p
  obtain ⟨y, xv, hx, ry, p2⟩ := p'.peek R
  obtain ⟨z, hz, p3⟩ := p2.bndL
  obtain ⟨j, hj, p4⟩ := p3.bndL
  unfold oGet at hz
  split at hz
  · split at hz
    · rename_i hc
      subst hc
      obtain ⟨a0, dx, xs, rfl, h1, h2⟩ := ry.obj R.ex
      obtain ⟨u, h3, h4⟩ := (h2.lookup f).2 _ hz
      cases z <;> first | (cases hj; done) | skip
      cases hj
      cases h4
      refine ⟨_, hx, a0, _, dx, xs, .int j, rfl, h1, hcl, hn, h3, Hf, η, R, p4.bnd fun d Hf2 H2 η2 σ2 R2 S2 p5 e2 v rv => ?_⟩
      subst e2
      obtain ⟨kk, hkk, p6⟩ := p5.bndL
      cases d <;> first | (cases hkk; done) | skip
      cases hkk
      cases rv
      refine ⟨j, kk, rfl, rfl, ?_⟩
      unfold bnd owSet at p6
      split at p6
      · rename_i u η' hu
        split at hu
        · rename_i dd hd
          obtain ⟨aa, Fo, g1, g3, g2⟩ := R2.ow i dd hd
          rw [hx] at g1; cases g1
          split at hu
          · rename_i d' hd'
            cases hu
            unfold oPut at hd'
            split at hd'
            · split at hd'
              · rename_i hc
                obtain ⟨rfl, hl⟩ := hc
                cases hd'
                cases g3 with
                | obj k1 k2 =>
                  rename_i xs2
                  refine ⟨_, xs2, k1, by rw [← k2.length]; exact hl, ?_⟩
                  obtain ⟨r4, s4⟩ := Rl.write (np := np) (u := .ins _ _ (putF f (.int (j + kk)) xs2)) R2 hd hx (.obj k1 k2) (.obj upd_same (k2.put .int))
                  exact p6 Hf2 _ σ2 r4 s4
              · cases hd'
            · cases hd'
          · cases hu
        · cases hu
      · rename_i x0 η' hu
        split at hu
        · split at hu <;> cases hu
        · cases hu
      · exact False.elim p6
    · cases hz
  · cases hz
/-! ### methods -/
noncomputable def mRecv (i : Nat) (c m : Str) : M Unit := bnd (mPeek i) fun d => lft (oHas c m d)
noncomputable abbrev methE (i : Nat) (c m : Str) (n1 q n : Nat) (F : M Sl) (g : {α : Type} → List α → List α → List α → List α) (dds : List Dat) (ms mk : M (List Ai)) : M Dat := bnd (mRecv i c m) fun _ => bnd ms fun its => bnd mk fun kits => bnd (lft (arr2 n1 q g dds (.io i :: its) kits)) fun l => bnd (callF n F l) fun r => lft (dRes r)
noncomputable abbrev methO (i : Nat) (c m : Str) (n1 q n : Nat) (F : M Sl) (g : {α : Type} → List α → List α → List α → List α) (dds : List Dat) (ms mk : M (List Ai)) : M Dat := bnd (mRecv i c m) fun _ => bnd ms fun its => bnd mk fun kits => bnd (lft (arr2 n1 q g dds (.io i :: its) kits)) fun l => bnd (callF n F l) fun r => lft (oRes r)
theorem Pst.recv {α : Type} {K : PySem.W.Frag} {Hf H : Hp} {η : En} {σ : St} {i : Nat} {c m : Str} {f : Unit → M α} {R : α → Hp → Hp → En → St → Prop} (r : Rl K Hf H η σ) (p : Pst K np W Hf H η σ R (D.bnd (mRecv i c m) f η)) :
    ∃ a dx xs, σ[i]? = some (some (.ref a)) ∧ H a = some (.ins (He.ga K c) dx xs) ∧ xs.lookup m = none ∧ Pst K np W Hf H η σ R (f () η) := by
  have p' : Pst K np W Hf H η σ R (D.bnd (mPeek i) (fun d => D.bnd (D.lft (oHas c m d)) f) η) := by
    rw [← bnd_bnd]; exact p
  obtain ⟨y, xv, hx, ry, p2⟩ := p'.peek r
  obtain ⟨u, hu, p3⟩ := p2.bndL
  unfold oHas at hu
  split at hu
  · split at hu
    · rename_i hc
      obtain ⟨rfl, hl⟩ := hc
      obtain ⟨a0, dx, xs, rfl, h1, h2⟩ := ry.obj r.ex
      exact ⟨a0, dx, xs, hx, h1, (h2.lookup m).1 hl, p3⟩
    · cases hu
  · cases hu
theorem de_mG1 {pl : Sem Bool} (i : Nat) (h : PE X (.Name x px) (tVar i)) (hcl : Cls X.K (He.ga X.K cn)) (hme : Meth X.K (He.ga X.K cn) m (He.fAd X.K (cn, some m))) (T : Cl X.prog X.w X.K X.mg X.base k (cn, some m) n F n1 ks dds g) (hp : Par3 g) (hr : Room k X.A) (tk : L2N.Takes X W) (ha : DA X W np (e :: es) ms) (hk : DK X W np kws mk)
    (hall : (backToKw pos (keywordEach kws X.env)).all (·.1.isSome) = true := by rfl) (hks : (backToKw pos (keywordEach kws X.env)).filterMap (·.1) = ks := by rfl)
    (hst : starEach (e :: es) X.env = (false, eval e X.env) :: starEach es X.env := by rfl) (hpl : ((backTo pos (starEach (e :: es) X.env)).any (·.1) || (backToKw pos (keywordEach kws X.env)).any (·.1.isNone)) = false := by rfl)
    (ht : eval (.Call (.Attribute (.Name x px) m apos) (e :: es) kws pos) X.env = (do
      let ov ← eval (.Name x px) X.env
      standAt apos.atName
      let (f, first) ← holding [ov] (getMethod ov m pl)
      callWith pos f first (backTo pos (starEach (e :: es) X.env)) (backToKw pos (keywordEach kws X.env))) := by rfl) :
    DE X W np (.Call (.Attribute (.Name x px) m apos) (e :: es) kws pos) (methE i cn m n1 ks.length n F g dds ms mk) := by
  obtain ⟨fd, ps, dvs, h1, h2, h3, h4⟩ := T
  refine PE.wk (pe_lk (pe_mG1 (pl := pl) (E := WE W) h hcl hme h1 hr h2 hp (L2N.passAt tk) ha hk hall hks hst hpl ht)) fun σ H Q ⟨Hf, η, R, p⟩ => ?_
  obtain ⟨a, dx, xs, w1, w2, w3, p⟩ := Pst.recv R p
  refine ⟨_, w1, a, dx, xs, rfl, w2, w3, Hf, η, R, p.bnd fun its Hf1 H1 η1 σ1 R1 S1 p1 e1 vs rvs => ?_⟩
  subst e1
  refine ⟨Hf1, η1, R1, p1.bnd fun kits Hf2 H2 η2 σ2 R2 S2 p2 e2 zs rzs => ?_⟩
  subst e2
  obtain ⟨l, hl, p3⟩ := p2.bndL
  obtain ⟨g1, g2, rfl⟩ := arr2_some hl
  have A : Ais X.K Hf2 σ2 (g (.io i :: its) kits (dds.map .va)) (g (.ref a :: vs) zs dvs) := .of (hp _ (show Paired _ (Ai.io i :: its) (V.ref a :: vs) from .cons w1 (rvs.mono S2.ef).pr) rzs.pr (reps_pr (h3 Hf2)))
  exact ⟨by rw [rvs.length']; exact g1, by rw [rzs.length']; exact g2, rd_call R2 A p3⟩
theorem de_mG0 {pl : Sem Bool} (i : Nat) (h : PE X (.Name x px) (tVar i)) (hcl : Cls X.K (He.ga X.K cn)) (hme : Meth X.K (He.ga X.K cn) m (He.fAd X.K (cn, some m))) (T : Cl X.prog X.w X.K X.mg X.base k (cn, some m) n F n1 ks dds g) (hp : Par3 g) (hr : Room k X.A) (tk : L2N.Takes X W) (hk : DK X W np kws mk)
    (hall : (backToKw pos (keywordEach kws X.env)).all (·.1.isSome) = true := by rfl) (hks : (backToKw pos (keywordEach kws X.env)).filterMap (·.1) = ks := by rfl)
    (hpl : ((backTo pos (starEach [] X.env)).any (·.1) || (backToKw pos (keywordEach kws X.env)).any (·.1.isNone)) = false := by rfl)
    (ht : eval (.Call (.Attribute (.Name x px) m apos) [] kws pos) X.env = (do
      let ov ← eval (.Name x px) X.env
      standAt apos.atName
      let (f, first) ← holding [ov] (getMethod ov m pl)
      callWith pos f first (backTo pos (starEach [] X.env)) (backToKw pos (keywordEach kws X.env))) := by rfl) :
    DE X W np (.Call (.Attribute (.Name x px) m apos) [] kws pos) (methE i cn m n1 ks.length n F g dds (ret []) mk) := by
  obtain ⟨fd, ps, dvs, h1, h2, h3, h4⟩ := T
  refine PE.wk (pe_lk (pe_mG0 (pl := pl) (E := WE W) h hcl hme h1 hr h2 hp (L2N.passAt tk) hk hall hks hpl ht)) fun σ H Q ⟨Hf, η, R, p⟩ => ?_
  obtain ⟨a, dx, xs, w1, w2, w3, p⟩ := Pst.recv R p
  refine ⟨_, w1, a, dx, xs, rfl, w2, w3, Hf, η, R, Pst.bnd (m := mk) p fun kits Hf2 H2 η2 σ2 R2 S2 p2 e2 zs rzs => ?_⟩
  subst e2
  obtain ⟨l, hl, p3⟩ := p2.bndL
  obtain ⟨g1, g2, rfl⟩ := arr2_some hl
  have A : Ais X.K Hf2 σ2 (g [.io i] kits (dds.map .va)) (g [.ref a] zs dvs) := .of (hp _ (show Paired _ [Ai.io i] [V.ref a] from .cons w1 .nil) rzs.pr (reps_pr (h3 Hf2)))
  exact ⟨g1, by rw [rzs.length']; exact g2, rd_call R2 A p3⟩
/-! ### while -/
noncomputable def mWhile (t : M Bool) (body : M Out) : Nat → M Out
  | 0 => stk
  | n + 1 => bnd t fun k => if k then bnd body fun o => match o with
      | .nx => mWhile t body n
      | .ct => mWhile t body n
      | .bk => ret .nx
      | o => ret o
    else ret .nx
theorem ds_while {st : List Stmt} {mt : M Bool} {m1 : M Out} (N : Nat) (hp : PassesOwn (model X.prog X.w) X.A X.env X.xe) (ht : DT X W np e mt) (hb : DB X W np st m1) : DS X W np (.While e st [] pos) (mWhile mt m1 N) := by
  refine PS.wk (ps_while hp ht hb) fun E σ H ⟨Hf, η, R, p⟩ => ?_
  refine ⟨fun m σ' H' => ∃ Hf' η', Rl X.K Hf' H' η' σ' ∧ Stp X.K np Hf H η σ Hf' H' η' σ' ∧ Pst X.K np W Hf' H' η' σ' (endS X.K Hf H η σ E) (mWhile mt m1 m η'), ⟨N, Hf, η, R, .refl, p⟩, ?_⟩
  rintro m σ2 H2 ⟨Hf2, η2, R2, S2, p2⟩
  cases m with
  | zero => exact False.elim p2
  | succ m =>
    refine ⟨Hf2, η2, R2, Pst.bnd (m := mt) p2 fun k Hf3 H3 η3 σ3 R3 S3 p3 e3 => ?_⟩
    subst e3
    have S4 := S2.trans S3
    cases k with
    | false => exact p3.ret R3
    | true =>
      refine ⟨fun σ' H' => ∃ Hf' η', Rl X.K Hf' H' η' σ' ∧ Stp X.K np Hf H η σ Hf' H' η' σ' ∧ Pst X.K np W Hf' H' η' σ' (endS X.K Hf H η σ E) (mWhile mt m1 m η'), fun σ' H' q => ⟨m, Nat.lt_succ_self _, q⟩, Hf3, η3, R3, Pst.bnd (m := m1) p3 fun o Hf5 H5 η5 σ5 R5 S5 p5 => ?_⟩
      have S6 := S4.trans S5
      cases o with
      | nx => exact ⟨Hf5, η5, R5, S6, p5⟩
      | ct => exact ⟨Hf5, η5, R5, S6, p5⟩
      | bk => exact p5 Hf5 H5 σ5 R5 .refl
      | rt d => exact p5 Hf5 H5 σ5 R5 .refl
      | ro d => exact endS.mono S4 (E := { E with nx := _, ct := _, bk := _ }) (o := .ro d) (p5 Hf5 H5 σ5 R5 .refl)
/-! ### x += n -/
noncomputable abbrev sAddE (i : Nat) (a : M Dat) : M Out := bnd (mVar i) fun x => bnd (lft (dInt x)) fun j => bnd a fun y => bnd (lft (dInt y)) fun k => sSet i (.int (j + k))
theorem ds_add {i : Nat} {tpos : Pos} (hN : X.N.Nodup) (hi : X.N[i]? = some x) (hx : Loc X.env.scope x) (he : DE X W np e ma) (hf : X.fn x = true ∨ X.env.scope.names.lookup x = some .local := by first | exact .inl rfl | exact .inr rfl | assumption) :
    DS X W np (.AugAssign (.Name x tpos) .Add e pos) (sAddE i ma) := by
  refine PS.wk (ps_aug hN hi hx he ip_add hf) fun E σ H ⟨Hf, η, R, p⟩ => ?_
  have p : Pst X.K np W Hf H η σ (endS X.K Hf H η σ E) (bnd (mVar i) (fun x => bnd (lft (dInt x)) fun j => bnd ma fun y => bnd (lft (dInt y)) fun k => sSet i (.int (j + k))) η) := p
  unfold bnd mVar at p
  split at p
  · rename_i d η' hd
    split at hd
    · rename_i d0 h0
      cases hd
      obtain ⟨v, h1, h2⟩ := R.fr i d h0
      have p1 : Pst X.K np W Hf H η σ (endS X.K Hf H η σ E) (bnd (lft (dInt d)) (fun j => bnd ma fun y => bnd (lft (dInt y)) fun k => sSet i (.int (j + k))) η) := p
      obtain ⟨j, hj, p2⟩ := p1.bndL
      cases d <;> first | (cases hj; done) | skip
      cases hj
      cases h2
      refine ⟨_, h1, Hf, η, R, p2.bnd fun y Hf2 H2 η2 σ2 R2 S2 p5 e2 v rv => ?_⟩
      subst e2
      obtain ⟨kk, hkk, p6⟩ := p5.bndL
      cases y <;> first | (cases hkk; done) | skip
      cases hkk
      cases rv
      obtain ⟨r2, s2⟩ := Rl.setF (np := np) (i := i) R2 (d := .int (j + kk)) .int
      exact ⟨j, kk, rfl, rfl, p6 Hf2 H2 _ r2 s2⟩
    · rename_i d0 h0
      cases hd
      obtain ⟨a0, Fo, g1, g3, g2⟩ := R.ow i d0 h0
      cases g3 with
      | own t => cases t <;> exact False.elim p
      | _ => exact False.elim p
    · cases hd
  · rename_i x0 η' hd
    split at hd <;> cases hd
  · exact False.elim p
end
end D

namespace D
open PySem L2
/-! ### one slot more at the end -/
section
variable {K : PySem.W.Frag} {np : Nat} {Hf H Hf' H' : Hp} {η η2 : En} {σ : St} {x dx : Addr} {C : Addr} {d : Dat}
theorem app_get {α : Type} {l : List α} {a : α} {i : Nat} {s : α} (h : (l ++ [a])[i]? = some s) : (i < l.length ∧ l[i]? = some s) ∨ (i = l.length ∧ s = a) := by
  by_cases hi : i < l.length
  · rw [List.getElem?_append_left hi] at h; exact .inl ⟨hi, h⟩
  · rw [List.getElem?_append_right (by omega)] at h
    have : i - l.length = 0 := by
      cases e : i - l.length with
      | zero => rfl
      | succ n => rw [e] at h; simp at h
    rw [this] at h
    exact .inr ⟨by omega, by simpa using h.symm⟩
theorem get_app {α : Type} {l : List α} {a : α} {i : Nat} {s : α} (h : l[i]? = some s) : (l ++ [a])[i]? = some s := by
  rw [List.getElem?_append_left (List.getElem?_eq_some_iff.mp h).1]; exact h
theorem get_last {α : Type} {l : List α} {a : α} {n : Nat} (h : n = l.length) : (l ++ [a])[n]? = some a := by subst h; simp
theorem Rl.snoc (R : Rl K Hf H η σ) (nx : H x = none) (ndx : H dx = none) (ne : dx ≠ x) (o : OwnAt K Hf (upd (upd H dx (.own x)) x (.ins C dx [])) [x] x d) : Rl K Hf (upd (upd H dx (.own x)) x (.ins C dx [])) (η ++ [.ow d]) (σ ++ [some (.ref x)]) := by
  have keep : ∀ b u, H b = some u → upd (upd H dx (.own x)) x (.ins C dx []) b = some u := fun b u h => by
    rw [upd_ne (ne_of_none h nx), upd_ne (ne_of_none h ndx)]; exact h
  have sx : Same Hf (upd (upd H dx (.own x)) x (.ins C dx [])) := fun b u h => keep _ _ (R.ex _ _ h)
  -- an older slot, or the new one
  have key : ∀ (i : Nat) (e : Dat) (a : Addr) (F : List Addr), (η ++ [Sl.ow d])[i]? = some (.ow e) → (σ ++ [some (V.ref x)])[i]? = some (some (.ref a)) → OwnAt K Hf (upd (upd H dx (.own x)) x (.ins C dx [])) F a e → (i < η.length ∧ η[i]? = some (.ow e) ∧ σ[i]? = some (some (.ref a)) ∧ OwnAt K Hf H F a e ∧ x ∉ F) ∨ (i = η.length ∧ F = [x]) := fun i e a F h h' o' => by
    rcases app_get h with ⟨hi, h⟩ | ⟨ei, h⟩
    · rcases app_get h' with ⟨_, h'⟩ | ⟨ej, h'⟩
      · have o2 := R.ownNow (.refl _) sx h h' o' fun G _ b _ u hu => keep _ _ hu
        refine .inl ⟨hi, h, h', o2, fun z => ?_⟩
        obtain ⟨u, hu⟩ := o2.there x z
        rw [nx] at hu; cases hu
      · rw [R.len] at hi; omega
    · rcases app_get h' with ⟨hj, h'⟩ | ⟨ej, h'⟩
      · rw [R.len] at ei; omega
      · cases h; cases h'; exact .inr ⟨ei, o'.uniq o⟩
  refine ⟨sx, by rw [List.length_append, List.length_append, R.len]; rfl, fun i e h => ?_, fun i e h => ?_, fun i j e f a b F G c h1 h2 h3 h4 h5 h6 h7 h8 => ?_⟩
  · rcases app_get h with ⟨_, h⟩ | ⟨_, h⟩
    · obtain ⟨v, q1, q2⟩ := R.fr i e h; exact ⟨v, get_app q1, q2⟩
    · cases h
  · rcases app_get h with ⟨_, h⟩ | ⟨ei, h⟩
    · obtain ⟨a, F, q1, q2, q3⟩ := R.ow i e h
      exact ⟨a, F, get_app q1, q2.mono (.refl _) sx fun b _ u hu => keep _ _ hu, q3⟩
    · cases h
      exact ⟨x, [x], get_last (by rw [ei, R.len]), o, fun b hb => by rw [List.mem_singleton.mp hb]; exact R.ex.free nx⟩
  · rcases key i e a F h1 h3 h5 with ⟨_, a1, a2, a3, a4⟩ | ⟨a1, a2⟩
    · rcases key j f b G h2 h4 h6 with ⟨_, b1, b2, b3, b4⟩ | ⟨b1, b2⟩
      · exact R.ap i j e f a b F G c a1 b1 a2 b2 a3 b3 h7 h8
      · rw [b2] at h8; rw [List.mem_singleton.mp h8] at h7; exact absurd h7 a4
    · rcases key j f b G h2 h4 h6 with ⟨_, b1, b2, b3, b4⟩ | ⟨b1, b2⟩
      · rw [a2] at h7; rw [List.mem_singleton.mp h7] at h8; exact absurd h8 b4
      · rw [a1, b1]
theorem take_get {n i : Nat} {s : Sl} (h : (η2.take n)[i]? = some s) : i < n ∧ η2[i]? = some s := by
  rw [List.getElem?_take] at h
  split at h
  · rename_i hi; exact ⟨hi, h⟩
  · cases h
theorem Rl.unsnoc {v : Option V} (R : Rl K Hf' H' η2 (σ ++ [v])) : Rl K Hf' H' (η2.take σ.length) σ := by
  have back : ∀ {i : Nat} {w : Option V}, i < σ.length → (σ ++ [v])[i]? = some w → σ[i]? = some w := fun {i w} hi h => by rwa [List.getElem?_append_left hi] at h
  have fwd : ∀ {i : Nat} {w : Option V}, σ[i]? = some w → (σ ++ [v])[i]? = some w := fun h => get_app h
  refine ⟨R.ex, by have := R.len; rw [List.length_append] at this; rw [List.length_take, this]; simp, fun i e h => ?_, fun i e h => ?_, fun i j e f a b F G c h1 h2 h3 h4 => ?_⟩
  · obtain ⟨hi, h⟩ := take_get h
    obtain ⟨w, q1, q2⟩ := R.fr i e h
    exact ⟨w, back hi q1, q2⟩
  · obtain ⟨hi, h⟩ := take_get h
    obtain ⟨w, F, q1, q2⟩ := R.ow i e h
    exact ⟨w, F, back hi q1, q2⟩
  · exact R.ap i j e f a b F G c (take_get h1).2 (take_get h2).2 (fwd h3) (fwd h4)
theorem Stp.unsnoc (R : Rl K Hf H η σ) (nx : H x = none) (ndx : H dx = none) (ne : dx ≠ x) (o0 : OwnAt K Hf (upd (upd H dx (.own x)) x (.ins C dx [])) [x] x d) (S : Stp K np Hf (upd (upd H dx (.own x)) x (.ins C dx [])) (η ++ [.ow d]) (σ ++ [some (.ref x)]) Hf' H' η2 (σ ++ [some (.ref x)])) : Stp K np Hf H η σ Hf' H' (η2.take σ.length) σ := by
  have keep : ∀ b u, H b = some u → upd (upd H dx (.own x)) x (.ins C dx []) b = some u := fun b u h => by
    rw [upd_ne (ne_of_none h nx), upd_ne (ne_of_none h ndx)]; exact h
  have sx : Same Hf (upd (upd H dx (.own x)) x (.ins C dx [])) := fun b u h => keep _ _ (R.ex _ _ h)
  have own : ∀ b, Own K Hf (upd (upd H dx (.own x)) x (.ins C dx [])) (η ++ [Sl.ow d]) (σ ++ [some (V.ref x)]) b → Own K Hf H η σ b ∨ H b = none := fun b ⟨i, e, a, F, h1, h2, h3, h4⟩ => by
    rcases app_get h1 with ⟨hi, h1⟩ | ⟨ei, h1⟩
    · rcases app_get h2 with ⟨_, h2⟩ | ⟨ej, h2⟩
      · exact .inl ⟨i, e, a, F, h1, h2, R.ownNow (.refl _) sx h1 h2 h3 fun G _ b _ u hu => keep _ _ hu, h4⟩
      · rw [R.len] at hi; omega
    · rcases app_get h2 with ⟨hj, h2⟩ | ⟨ej, h2⟩
      · rw [R.len] at ei; omega
      · cases h1; cases h2
        rw [h3.uniq o0] at h4
        rw [List.mem_singleton.mp h4]; exact .inr nx
  have hn : ∀ b, upd (upd H dx (.own x)) x (.ins C dx []) b = none → H b = none := fun b h => by
    by_cases z : b = x
    · rw [z, upd_same] at h; cases h
    · rw [upd_ne z] at h
      by_cases z2 : b = dx
      · rw [z2, upd_same] at h; cases h
      · rwa [upd_ne z2] at h
  refine ⟨S.ef, fun b o h n => S.fr b o ?_ fun z => ?_, fun b h => hn b (S.nn b h), fun b h => ?_, fun b o h => ?_, fun i e hi h => ?_⟩
  · rw [upd_ne (ne_of_none h nx), upd_ne (ne_of_none h ndx)]; exact h
  · rcases own b z with q | q
    · exact n q
    · rw [h] at q; cases q
  · obtain ⟨i, e, a, F, h1, h2, h3⟩ := h
    rcases S.ow b ⟨i, e, a, F, (take_get h1).2, get_app h2, h3⟩ with q | q
    · exact own b q
    · exact .inr (hn b q)
  · rcases S.nf b o h with q | q | q
    · exact .inl q
    · exact .inr (.inl (hn b q))
    · rcases own b q with z | z
      · exact .inr (.inr z)
      · exact .inr (.inl z)
  · obtain ⟨hi2, h⟩ := take_get h
    obtain ⟨⟨e0, q1⟩, q2⟩ := S.pr i e hi h
    rcases app_get q1 with ⟨_, q1⟩ | ⟨ei, _⟩
    · exact ⟨⟨e0, q1⟩, rfl⟩
    · rw [R.len] at ei; omega
theorem Ais.snoc {v : Option V} : ∀ {its : List Ai} {vs : List V}, Ais K Hf σ its vs → Ais K Hf (σ ++ [v]) its vs
  | _, _, .nil => .nil
  | _, _, .va h r => .va h r.snoc
  | _, _, .io h r => .io (get_app h) r.snoc
end
/-! ### C(..) -/
noncomputable def flO : Dat → Option Dat
  | .own _ => none
  | d => some d
theorem flO_ok {d e : Dat} (h : flO d = some e) : d = e ∧ ∀ t, d ≠ .own t := by
  unfold flO at h
  split at h
  · cases h
  · rename_i d' hd; cases h; exact ⟨rfl, fun t z => hd t z⟩
noncomputable def trO : Dat → Option Dat
  | .own d => some d
  | _ => none
theorem trO_ok {d e : Dat} (h : trO d = some e) : d = .own e := by
  unfold trO at h
  split at h
  · cases h; rfl
  · cases h
/-- the object as it is made, flat or a tree by f -/
noncomputable def makeX (d0 : Dat) (f : Dat → Option Dat) (n1 q n : Nat) (F : M Sl) (g : {α : Type} → List α → List α → List α → List α) (dds : List Dat) (its kits : List Ai) : M Dat := fun η => match arr2 n1 q g dds (.io η.length :: its) kits with
  | none => .bad
  | some l => match callF n F l (η ++ [.ow d0]) with
    | .ok (.fr .non) η2 => match η2[η.length]? with
      | some (.ow o) => match f o with
        | some o => .ok o (η2.take η.length)
        | none => .bad
      | _ => .bad
    | .rs x η2 => .rs x (η2.take η.length)
    | _ => .bad
noncomputable def makeG (n1 q n : Nat) (F : M Sl) (g : {α : Type} → List α → List α → List α → List α) (c : Str) (dds : List Dat) (its kits : List Ai) : M Dat := makeX (.obj c []) flO n1 q n F g dds its kits
/-- .. a tree -/
noncomputable def makeT (n1 q n : Nat) (F : M Sl) (g : {α : Type} → List α → List α → List α → List α) (c : Str) (dds : List Dat) (its kits : List Ai) : M Dat := makeX (.own (.obj c [])) trO n1 q n F g dds its kits
noncomputable abbrev makeO (n1 q n : Nat) (F : M Sl) (g : {α : Type} → List α → List α → List α → List α) (c : Str) (dds : List Dat) (ms mk : M (List Ai)) : M Dat := bnd ms fun its => bnd mk fun kits => makeG n1 q n F g c dds its kits
section
variable {X : Cx} {W : WX} {np : Nat} {e : Expr} {es : List Expr} {pos p : Pos} {ms mk : M (List Ai)} {k n n1 : Nat} {F : M Sl} {cn : Str} {ks : List Str} {kws : List Keyword} {dds : List Dat} {g : {α : Type} → List α → List α → List α → List α}
theorem mk_rdX {K : PySem.W.Frag} {Hf H : Hp} {η : En} {σ : St} {its kits : List Ai} {vs zs dvs : List V} {Q : VK} {q : Nat} {d0 : Dat} {f : Dat → Option Dat} (R : Rl K Hf H η σ) (hp : Par3 g) (A : Ais K Hf σ its vs) (B : Ais K Hf σ kits zs) (D : Reps K Hf dds dvs)
    (o0 : ∀ {x dx : Addr}, OwnAt K Hf (upd (upd H dx (.own x)) x (.ins (He.ga K cn) dx [])) [x] x d0)
    (pp : Pst K np W Hf H η σ (fun d Hf' H' η' σ' => σ' = σ → ∀ o, f o = some d → ∀ p F, OwnAt K Hf' H' F p o → Fsh K Hf H η σ Hf' H' η' σ' F → Q (.ref p) H') (makeX d0 f n1 q n F g dds its kits η)) :
    vs.length + 1 = n1 ∧ zs.length = q ∧ ∀ x dx, H x = none → H dx = none → dx ≠ x → spD K n F (g (.ref x :: vs) zs dvs) (upd (upd H dx (.own x)) x (.ins (He.ga K cn) dx [])) (fun v H3 => v = .non ∧ Q (.ref x) H3) (fun cls d H => W cls d σ H) := by
  unfold makeX at pp
  cases ha : arr2 n1 q g dds (.io η.length :: its) kits with
  | none => rw [ha] at pp; exact False.elim pp
  | some l =>
    rw [ha] at pp
    obtain ⟨g1, g2, rfl⟩ := arr2_some ha
    refine ⟨by rw [A.length']; exact g1, by rw [B.length']; exact g2, fun x dx nx ndx ne => ?_⟩
    have o := @o0 x dx
    have R2 := R.snoc nx ndx ne o
    have A2 : Ais K Hf (σ ++ [some (.ref x)]) (g (.io η.length :: its) kits (dds.map .va)) (g (.ref x :: vs) zs dvs) :=
      .of (hp _ (show Paired _ (Ai.io η.length :: its) (V.ref x :: vs) from .cons (get_last (by rw [R.len])) A.snoc.pr) B.snoc.pr (reps_pr D))
    have hn : ∀ b, upd (upd H dx (.own x)) x (.ins (He.ga K cn) dx []) b = none → H b = none := fun b hb => by
      by_cases z1 : b = x
      · subst z1; exact nx
      · rw [upd_ne z1] at hb
        by_cases z2 : b = dx
        · subst z2; exact ndx
        · rwa [upd_ne z2] at hb
    refine sp_call (np := np) (W := fun cls d _ H => W cls d σ H) R2 A2 (fun z => ?_) (fun s η' z Hf' H' R' S' => ?_) (fun xx η' z Hf' H' dxx R' S' pay => ?_)
    · dsimp only at pp; rw [z] at pp; exact pp
    · dsimp only at pp; rw [z] at pp
      have S'' := Stp.unsnoc R nx ndx ne o S'
      have R'' := Rl.unsnoc R'
      rw [← R.len] at R'' S''
      cases s with
      | no => exact False.elim pp
      | ow d => exact False.elim pp
      | fr d =>
        cases d <;> first | exact False.elim pp | skip
        intro v rv
        cases rv
        refine ⟨rfl, ?_⟩
        cases ho : η'[η.length]? with
        | none => simp only [ho] at pp; exact False.elim pp
        | some sl =>
          cases sl with
          | no => simp only [ho] at pp; exact False.elim pp
          | fr d => simp only [ho] at pp; exact False.elim pp
          | ow ob =>
            simp only [ho] at pp
            cases hfo : f ob with
            | none => simp only [hfo] at pp; exact False.elim pp
            | some oo =>
              simp only [hfo] at pp
              obtain ⟨b, Fo, w1, w2, w3⟩ := R'.ow _ ob ho
              rw [get_last (by rw [R.len])] at w1
              cases w1
              refine pp Hf' H' σ R'' S'' rfl ob hfo x Fo w2 fun c hc => ⟨?_, w3 c hc, fun ⟨j, e, a, G, y1, y2, y3, y4⟩ => ?_⟩
              · have q : Own K Hf' H' η' (σ ++ [some (.ref x)]) c := ⟨_, ob, x, Fo, ho, get_last (by rw [R.len]), w2, hc⟩
                rcases S'.ow c q with ⟨i, e, a, G, h1, h2, h3, h4⟩ | z
                · rcases app_get h1 with ⟨hi, h1⟩ | ⟨ei, h1⟩
                  · rcases app_get h2 with ⟨_, h2⟩ | ⟨ej, h2⟩
                    · refine .inr ⟨i, e, a, G, h1, h2, R.ownNow (.refl _) R2.ex h1 h2 h3 fun G _ b _ u hu => ?_, h4⟩
                      rw [upd_ne (ne_of_none hu nx), upd_ne (ne_of_none hu ndx)]; exact hu
                    · rw [R.len] at hi; omega
                  · rcases app_get h2 with ⟨hj, h2⟩ | ⟨ej, h2⟩
                    · rw [R.len] at ei; omega
                    · cases h1; cases h2
                      rw [h3.uniq o] at h4
                      rw [List.mem_singleton.mp h4]; exact .inl nx
                · exact .inl (hn c z)
              · obtain ⟨hj, y1⟩ := take_get y1
                have := R'.ap j η.length e ob a x G Fo c y1 ho (get_app y2) (get_last (by rw [R.len])) y3 w2 y4 hc
                omega
    · dsimp only at pp; rw [z] at pp
      have S'' := Stp.unsnoc R nx ndx ne o S'
      have R'' := Rl.unsnoc R'
      rw [← R.len] at R'' S''
      exact pp Hf' H' σ dxx R'' S'' (pay.from hn)
theorem Pst.wkR {α : Type} {K : PySem.W.Frag} {Hf H : Hp} {η : En} {σ : St} {R R1 : α → Hp → Hp → En → St → Prop} {r : Rs α} (p : Pst K np W Hf H η σ R r) (h : ∀ a Hf' H' η' σ', R a Hf' H' η' σ' → R1 a Hf' H' η' σ') : Pst K np W Hf H η σ R1 r := by
  cases r with
  | ok a η' => exact fun Hf' H' σ' r s => h _ _ _ _ _ (p Hf' H' σ' r s)
  | rs x η' => exact p
  | bad => exact p
theorem mk_rd {K : PySem.W.Frag} {Hf H Hf0 H0 : Hp} {η η0 : En} {σ σ0 : St} {its kits : List Ai} {vs zs dvs : List V} {Q : VK} {q : Nat} (R : Rl K Hf H η σ) (hp : Par3 g) (A : Ais K Hf σ its vs) (B : Ais K Hf σ kits zs) (D : Reps K Hf dds dvs) (h0 : ∀ p, Nw K Hf H η σ p → Nw K Hf0 H0 η0 σ0 p)
    (pp : Pst K np W Hf H η σ (fun d Hf' H' η' σ' => σ' = σ → ∀ p, Nw K Hf0 H0 η0 σ0 p → Hf' p = none → OwnF K Hf' H' p d → ¬ Own K Hf' H' η' σ' p → Q (.ref p) H') (makeG n1 q n F g cn dds its kits η)) :
    vs.length + 1 = n1 ∧ zs.length = q ∧ ∀ x dx, H x = none → H dx = none → dx ≠ x → spD K n F (g (.ref x :: vs) zs dvs) (upd (upd H dx (.own x)) x (.ins (He.ga K cn) dx [])) (fun v H3 => v = .non ∧ Q (.ref x) H3) (fun cls d H => W cls d σ H) := by
  refine mk_rdX (d0 := .obj cn []) (f := flO) R hp A B D (.obj upd_same .nil) (Pst.wkR pp fun d Hf' H' η' σ' h e o ho p Fo oo fs => ?_)
  obtain ⟨e1, fl⟩ := flO_ok ho
  subst e1
  have eF : Fo = [p] := by cases oo with
    | own t => exact absurd rfl (fl _)
    | _ => rfl
  subst eF
  have f1 := fs p (List.mem_singleton_self _)
  exact h e p (h0 p f1.1) f1.2.1 ⟨oo, fl⟩ f1.2.2
theorem do_kG1 (M : Mk X.K (He.ga X.K cn) (He.fAd X.K (cn, some "__init__"))) (T : Cl X.prog X.w X.K X.mg X.base k (cn, some "__init__") n F n1 ks dds g) (hp : Par3 g) (hm : X.mg cn = some (.ref (He.ga X.K cn))) (hr : Room (k + 1) X.A) (hg : Gl X cn) (tk : L2N.Takes X W) (ha : DA X W np (e :: es) ms) (hk : DK X W np kws mk)
    (hall : (backToKw pos (keywordEach kws X.env)).all (·.1.isSome) = true := by rfl) (hks : (backToKw pos (keywordEach kws X.env)).filterMap (·.1) = ks := by rfl) (hdb : (cn == ("__debug__" : Str)) = false := by decide)
    (he : starEach (e :: es) X.env = (false, eval e X.env) :: starEach es X.env := by rfl) (hpl : ((backTo pos (starEach (e :: es) X.env)).any (·.1) || (backToKw pos (keywordEach kws X.env)).any (·.1.isNone)) = false := by rfl) :
    DO X W np (.Call (.Name cn p) (e :: es) kws pos) (makeO n1 ks.length n F g cn dds ms mk) := by
  obtain ⟨fd, ps, dvs, h1, h2, h3, h4⟩ := T
  refine PE.wk (pe_kG1 (E := WE W) M h1 hr hg hm h2 hp (L2N.passAt tk) ha hk hall hks hdb he hpl) fun σ H Q ⟨Hf, η, R, p⟩ => ⟨Hf, η, R, p.bnd fun its Hf1 H1 η1 σ1 R1 S1 p1 e1 vs rvs => ?_⟩
  subst e1
  refine ⟨Hf1, η1, R1, p1.bnd fun kits Hf2 H2 η2 σ2 R2 S2 p2 e2 zs rzs => ?_⟩
  subst e2
  exact mk_rd R2 hp (rvs.mono S2.ef) rzs (h3 Hf2) (fun p z => (z.from S2).from S1) p2
theorem do_kG0 (M : Mk X.K (He.ga X.K cn) (He.fAd X.K (cn, some "__init__"))) (T : Cl X.prog X.w X.K X.mg X.base k (cn, some "__init__") n F n1 ks dds g) (hp : Par3 g) (hm : X.mg cn = some (.ref (He.ga X.K cn))) (hr : Room (k + 1) X.A) (hg : Gl X cn) (tk : L2N.Takes X W) (hk : DK X W np kws mk)
    (hall : (backToKw pos (keywordEach kws X.env)).all (·.1.isSome) = true := by rfl) (hks : (backToKw pos (keywordEach kws X.env)).filterMap (·.1) = ks := by rfl) (hdb : (cn == ("__debug__" : Str)) = false := by decide)
    (hpl : ((backTo pos (starEach [] X.env)).any (·.1) || (backToKw pos (keywordEach kws X.env)).any (·.1.isNone)) = false := by rfl) :
    DO X W np (.Call (.Name cn p) [] kws pos) (makeO n1 ks.length n F g cn dds (ret []) mk) := by
  obtain ⟨fd, ps, dvs, h1, h2, h3, h4⟩ := T
  refine PE.wk (pe_kG0 (E := WE W) M h1 hr hg hm h2 hp (L2N.passAt tk) hk hall hks hdb hpl) fun σ H Q ⟨Hf, η, R, p⟩ => ⟨Hf, η, R, Pst.bnd (m := mk) p fun kits Hf2 H2 η2 σ2 R2 S2 p2 e2 zs rzs => ?_⟩
  subst e2
  exact mk_rd R2 hp .nil rzs (h3 Hf2) (fun p z => z.from S2) p2
end
/-! ### how a def's parameters are bound -/
section
variable {K : PySem.W.Frag} {x qual : Str} {params : Arguments} {body : List Stmt} {scope : Scope} {dvs : List V} {kws : List (Str × V)} {f : Addr} {fd : FuncData} {ps ks : List Str} {n : Nat} {g : {α : Type} → List α → List α → List α → List α}
theorem bn_plain (F : FunD K x qual params body scope [] kws f fd) (h : ∀ (kV doc pm : Value) (an : Option Addr) (cdv ct : Value) (us ws : List Value), us.length = n → ws.length = ks.length → bindArgs (PySem.W.fnOf x qual params body scope .none kV doc pm an cdv ct) ⟨us, ks.zip ws⟩ = pure (ps.zip (g us ws []))) : Bn K fd ps n ks [] g := by
  obtain ⟨oc, od, dV, kV, doc, pm, an, cdv, ct, osl, rfl, lk, hcd, hD, hK⟩ := F.ex
  rcases hD with ⟨_, rfl⟩ | ⟨e, _⟩
  · exact ⟨[], .nil, fun s us ws X l1 l2 => .of_eq (h kV doc pm an cdv ct us ws l1 l2)⟩
  · exact absurd rfl e
theorem bn_dfl (F : FunD K x qual params body scope dvs kws f fd) (hd : dvs ≠ []) (h : ∀ (T : Addr) (kV doc pm : Value) (an : Option Addr) (cdv ct : Value) (us ws its : List Value), us.length = n → ws.length = ks.length → its.length = dvs.length →
      ∃ k, bindArgs (PySem.W.fnOf x qual params body scope (.ref T) kV doc pm an cdv ct) ⟨us, ks.zip ws⟩ = seqItems? (.ref T) >>= k ∧ k (some its.toArray) = pure (ps.zip (g us ws its))) : Bn K fd ps n ks dvs g := by
  obtain ⟨oc, od, dV, kV, doc, pm, an, cdv, ct, osl, rfl, lk, hcd, hD, hK⟩ := F.ex
  rcases hD with ⟨e, _⟩ | ⟨_, T, o, its, m, rfl, lT, oT, rT⟩
  · exact absurd e hd
  · refine ⟨its, rT, fun s us ws X l1 l2 => ?_⟩
    obtain ⟨k, e1, e2⟩ := h T kV doc pm an cdv ct us ws its l1 l2 rT.length.symm
    refine BindsTo.of_looks fun M => ?_
    rw [e1]
    exact looks_items X lT oT (.of_pure e2)
theorem bn_kwd (F : FunD K x qual params body scope [] kws f fd) (ms : List (Str × V)) (hk : kws ≠ []) (hms : ∀ q ∈ ms, q ∈ kws) (h : ∀ (D : Addr) (doc pm : Value) (an : Option Addr) (cdv ct : Value) (us mv ws : List Value), us.length = n → mv.length = ms.length → ws.length = ks.length →
      KwChain D ((ms.map (·.1)).zip mv) (bindArgs (PySem.W.fnOf x qual params body scope .none (.ref D) doc pm an cdv ct) ⟨us, ks.zip ws⟩) (ps.zip (g us ws mv))) : Bn K fd ps n ks (ms.map (·.2)) g := by
  obtain ⟨oc, od, dV, kV, doc, pm, an, cdv, ct, osl, rfl, lk, hcd, hD, hK⟩ := F.ex
  rcases hD with ⟨_, rfl⟩ | ⟨e, _⟩
  · rcases hK with e | ⟨D, rfl, hq⟩
    · exact absurd e hk
    · obtain ⟨mv, hl, rk, hks⟩ := kwd_vals (ms := ms) fun q hm => hq q (hms q hm)
      exact ⟨mv, rk, fun s us ws X l1 l2 => BindsTo.of_looks fun M => KwChain.looks X hks (h D doc pm an cdv ct us mv ws l1 hl l2)⟩
  · exact absurd rfl e
end
end D

namespace D
open PySem PySem.Spec PyProof.Rows L2
/-! ### x in a tuple or list of data at any depth -/
noncomputable def itemsP : PyData → Option (List PyData)
  | .list xs => some xs
  | .tuple xs => some xs
  | _ => none
noncomputable def rInD (K : PySem.W.Frag) (neg : Bool) : R2 := fun x y H Q => ∃ d e xs, Dp K H x d ∧ Dp K H y e ∧ itemsP e = some xs ∧ SeqAt.shaped d = true ∧ SeqAt.shaped e = true ∧ Q (.bl (if neg then !(xs.any fun y => PyData.eqv y d) else xs.any fun y => PyData.eqv y d)) H
theorem op_inD {X : Cx} (hu : X.A.units + 64 < cLine) : OpR X (compareOp .In) (rInD X.K false) := by
  intro pins s σ H x y v u Q I rx ry h
  obtain ⟨d, e, xs, hd, he, hi, sd, se, q⟩ := h
  obtain ⟨as, r1⟩ := Dp.reads I d x v hd rx
  obtain ⟨bs, r2⟩ := Dp.reads I e y u he ry
  have cd := SeqAt.canLay_of_shaped sd
  have ce := SeqAt.canLay_of_shaped se
  have de := SeqAt.depth_of_shaped se
  cases e <;> first | (cases hi; done) | skip
  · cases hi
    have h1 : PyData.canLayAll0 xs = true := by simpa [PyData.canLay0] using ce
    have h2 : PyData.depthAll xs + 1 ≤ 64 := by simpa [PyData.depth] using de
    exact SeqAt.in_list_reads r2 r1 h1 cd (by have := Nat.min_le_left (PyData.depthAll xs) d.depth; omega) ⟨.bl _, H, I, rfl, q⟩
  · cases hi
    have h1 : PyData.canLayAll0 xs = true := by simpa [PyData.canLay0] using ce
    have h2 : PyData.depthAll xs + 1 ≤ 64 := by simpa [PyData.depth] using de
    exact SeqAt.in_tuple_reads r2 r1 h1 cd (by have := Nat.min_le_left (PyData.depthAll xs) d.depth; omega) ⟨.bl _, H, I, rfl, q⟩
theorem op_notinD {X : Cx} (hu : X.A.units + 64 < cLine) : OpR X (compareOp .NotIn) (rInD X.K true) := by
  intro pins s σ H x y v u Q I rx ry h
  obtain ⟨d, e, xs, hd, he, hi, sd, se, q⟩ := h
  obtain ⟨as, r1⟩ := Dp.reads I d x v hd rx
  obtain ⟨bs, r2⟩ := Dp.reads I e y u he ry
  have cd := SeqAt.canLay_of_shaped sd
  have ce := SeqAt.canLay_of_shaped se
  have de := SeqAt.depth_of_shaped se
  cases e <;> first | (cases hi; done) | skip
  · cases hi
    have h1 : PyData.canLayAll0 xs = true := by simpa [PyData.canLay0] using ce
    have h2 : PyData.depthAll xs + 1 ≤ 64 := by simpa [PyData.depth] using de
    exact SeqAt.notIn_list_reads r2 r1 h1 cd (by have := Nat.min_le_left (PyData.depthAll xs) d.depth; omega) ⟨.bl _, H, I, rfl, q⟩
  · cases hi
    have h1 : PyData.canLayAll0 xs = true := by simpa [PyData.canLay0] using ce
    have h2 : PyData.depthAll xs + 1 ≤ 64 := by simpa [PyData.depth] using de
    exact SeqAt.notIn_tuple_reads r2 r1 h1 cd (by have := Nat.min_le_left (PyData.depthAll xs) d.depth; omega) ⟨.bl _, H, I, rfl, q⟩
noncomputable def dInD (x y : Dat) : Option Bool := match toPy x, toPy y with
  | some p, some q => (itemsP q).bind fun xs => if SeqAt.shaped p = true ∧ SeqAt.shaped q = true then some (xs.any fun y => PyData.eqv y p) else none
  | _, _ => none
theorem dInD_ok {K : PySem.W.Frag} : OpB K (rInD K false) dInD := by
  intro Hf H x y dx dy b e rx ry h Q q
  unfold dInD at h
  split at h
  · rename_i p1 p2 e1 e2
    obtain ⟨xs, h1, h2⟩ := Option.bind_eq_some_iff.mp h
    split at h2
    · rename_i z; cases h2
      exact ⟨p1, p2, xs, toPyP_ok e rx e1, toPyP_ok e ry e2, h1, z.1, z.2, q⟩
    · cases h2
  · cases h
noncomputable def dNotInD (x y : Dat) : Option Bool := (dInD x y).map (!·)
theorem dNotInD_ok {K : PySem.W.Frag} : OpB K (rInD K true) dNotInD := by
  intro Hf H x y dx dy b e rx ry h Q q
  unfold dNotInD at h
  obtain ⟨b0, h0, h3⟩ := Option.map_eq_some_iff.mp h
  unfold dInD at h0
  split at h0
  · rename_i p1 p2 e1 e2
    obtain ⟨xs, h1, h2⟩ := Option.bind_eq_some_iff.mp h0
    split at h2
    · rename_i z; cases h2; subst h3
      exact ⟨p1, p2, xs, toPyP_ok e rx e1, toPyP_ok e ry e2, h1, z.1, z.2, q⟩
    · cases h2
  · cases h0
/-! ### text * n -/
noncomputable def repS (z : Str) (n : Nat) : Str := ⟨(List.replicate n z.cps).foldl (· ++ ·) #[]⟩
theorem repS_cps (z : Str) (n : Nat) : (repS z n).cps.toList = (List.replicate n z.cps.toList).flatten := by
  have key : ∀ (l : List (Array Nat)) (acc : Array Nat), (l.foldl (· ++ ·) acc).toList = acc.toList ++ (l.map Array.toList).flatten := fun l => by
    induction l with
    | nil => intro acc; simp
    | cons a r ih => intro acc; rw [List.foldl_cons, ih]; simp
  unfold repS
  rw [key]
  simp
theorem repS_length (z : Str) (n : Nat) : (repS z n).length = n * z.length := by
  have h := congrArg List.length (repS_cps z n)
  rw [List.length_flatten, List.map_replicate, List.sum_replicate_nat] at h
  simpa [Str.length] using h
theorem str_eq {a b : Str} (h : a.cps.toList = b.cps.toList) : a = b := by
  obtain ⟨a⟩ := a; obtain ⟨b⟩ := b
  have : a = b := Array.toList_inj.mp h
  rw [this]
noncomputable def rMulS : R2 := fun x y H Q => ∃ (z : Str) (n : Int), x = .str z ∧ y = .int n ∧ 0 ≤ n ∧ n ≤ 1000000 ∧ z.length ≤ 1000000 ∧ z.length * n.toNat ≤ 1000000 ∧ Q (.str (repS z n.toNat)) H
theorem op_mulS {X : Cx} : OpR X (binaryOp .Mult) rMulS := by
  intro pins s σ H x y v u Q I rx ry h
  obtain ⟨z, n, rfl, rfl, h0, h1, h2, h3, q⟩ := h
  obtain ⟨t, rfl⟩ := rx
  obtain ⟨t', rfl⟩ := ry
  refine P.mul_str (by rw [decide_eq_false (by omega), decide_eq_false (by omega)]; rfl) (fun a b => ?_) (fun a b => ?_) ?_
  · have hz : (z.length : Int) * n ≤ 2 ^ 63 - 1 := by
      have e : n = (n.toNat : Int) := by omega
      rw [e]
      have : ((z.length * n.toNat : Nat) : Int) ≤ ((1000000 : Nat) : Int) := Int.ofNat_le.mpr h3
      rw [Int.natCast_mul] at this
      omega
    have : (z.length : Int) ≤ (2 ^ 63 - 1) / n := (Int.le_ediv_iff_mul_le (by omega)).mpr hz
    omega
  · unfold Builtin.Str.tooLong sizeLine
    exact decide_eq_false (by omega)
  · have lz : z.length = z.cps.toList.length := by simp [Str.length]
    by_cases c1 : n < 1
    · rw [if_pos c1]
      have e : repS z n.toNat = Str.empty := by
        have : n.toNat = 0 := by omega
        rw [this]; rfl
      rw [e] at q
      exact ⟨by decide, ⟨.str Str.empty, H, I.tok _, ⟨_, rfl⟩, q⟩⟩
    · rw [if_neg c1]
      by_cases c2 : (n == 1 || z.length == 0) = true
      · rw [if_pos c2]
        have e : repS z n.toNat = z := by
          apply str_eq
          rw [repS_cps]
          rcases Bool.or_eq_true .. ▸ c2 with c | c
          · have : n = 1 := by simpa using c
            subst this; simp
          · have : z.length = 0 := by simpa using c
            rw [lz] at this
            have e0 : z.cps.toList = [] := List.length_eq_zero_iff.mp this
            rw [e0]; simp
        rw [e] at q
        exact ⟨.str z, H, I, ⟨_, rfl⟩, q⟩
      · rw [if_neg c2]
        exact ⟨by rw [show (⟨(List.replicate n.toNat z.cps).foldl (· ++ ·) #[]⟩ : Str) = repS z n.toNat from rfl]; first | exact Nat.le_trans (Nat.le_of_eq (repS_length z n.toNat)) (by unfold sizeLine; rw [Nat.mul_comm]; omega) | trivial, ⟨.str _, H, I.tok _, ⟨_, rfl⟩, q⟩⟩
noncomputable def dMulS : Dat → Dat → Option Dat
  | .str z, .int n => if 0 ≤ n ∧ n ≤ 1000000 ∧ z.length ≤ 1000000 ∧ z.length * n.toNat ≤ 1000000 then some (.str (repS z n.toNat)) else none
  | _, _ => none
theorem dMulS_ok {K : PySem.W.Frag} : Op2 K rMulS dMulS := by
  intro Hf H x y dx dy d e rx ry h Q q
  unfold dMulS at h
  split at h
  · split at h
    · rename_i z; cases h; cases rx.str; cases ry.int
      exact ⟨_, _, rfl, rfl, z.1, z.2.1, z.2.2.1, z.2.2.2, q _ Hf H (.refl e) .str⟩
    · cases h
  · cases h
/-! ### int(text) -/
noncomputable def dIntS : List Dat → Option Dat
  | [.str a] => if a.length ≤ 640 then (PySem.intText? a).map .int else none
  | _ => none
theorem dIntS_ok {K : PySem.W.Frag} : OpC K (fun xs H Q => ∃ a n, xs = [.str a] ∧ PySem.intText? a = some n ∧ a.length ≤ 640 ∧ Q (.int n) H) dIntS := by
  intro Hf H xs ds d e r h Q q
  unfold dIntS at h
  split at h
  · obtain ⟨v, rfl, r1⟩ := r.one'
    cases r1.str
    split at h
    · rename_i hl
      obtain ⟨n, hn, rfl⟩ := Option.map_eq_some_iff.mp h
      exact ⟨_, n, rfl, hn, hl, q _ Hf H (.refl e) .int⟩
    · cases h
  · cases h
end D

namespace D
open PySem L2
/-! ### what error classes say, as tests -/
noncomputable def oexB (K : PySem.W.Frag) (C : Addr) : Bool := (match K.lookup C with
  | some ⟨.type "type", _, .cls cd, sl⟩ => (match cd.mro, sl.toList with
    | .ref C' :: bm, [_, _, _, _, some (.builtin n), _] => C' == C && n == "ValueError.__new__" && !cd.hasDel && cd.hasDict && PySem.HandSPX.refsVE bm
    | _, _ => false)
  | _ => false) && (decide (PySem.W.findIn K (.ref C) "__setattr__" = some (some (.builtin "object.__setattr__"))) && (decide (PySem.W.subIn K (.ref C) (.type "BaseException") = some true) && (decide (PySem.W.typeIn K (.ref C) = some (.type "type")) && PySem.W.keepIn K (.ref C))))
theorem oexB_ok {K : PySem.W.Frag} {C : Addr} (h : oexB K C = true) : OexC K C := by
  obtain ⟨q, h⟩ := Bool.and_eq_true_iff.mp h
  obtain ⟨h2, h⟩ := Bool.and_eq_true_iff.mp h
  obtain ⟨h3, h⟩ := Bool.and_eq_true_iff.mp h
  obtain ⟨h4, h5⟩ := Bool.and_eq_true_iff.mp h
  refine ⟨?_, of_decide_eq_true h2, of_decide_eq_true h3, of_decide_eq_true h4, h5⟩
  split at q
  · rename_i dd cd sl ho
    split at q
    · rename_i C' bm k0 k1 k2 k3 n k5 hm hs
      simp only [Bool.and_eq_true, beq_iff_eq, Bool.not_eq_true'] at q
      obtain ⟨⟨⟨⟨rfl, rfl⟩, hdel⟩, hdct⟩, ht⟩ := q
      obtain ⟨nm, bs, mro, ns, qn, hd, sn, sub, ab, col, del⟩ := cd
      dsimp only at hm hdel hdct
      subst hm hdel hdct
      have hsl : sl = #[k0, k1, k2, k3, some (.builtin "ValueError.__new__"), k5] := by
        obtain ⟨l⟩ := sl
        simp only at hs
        rw [hs]
      subst hsl
      exact ⟨nm, qn, ns, bs, bm, sn, sub, ab, col, dd, k0, k1, k2, k3, k5, ho, ht⟩
    · cases q
  · cases q
/-- what isinstance asks of the class -/
noncomputable def xcB (K : PySem.W.Frag) (D : Addr) : Bool := decide (PySem.W.findIn K (.ref D) "__getattribute__" = some (some (.builtin "BaseException.__getattribute__"))) && (decide (PySem.W.findIn K (.ref D) "__getattr__" = some none) && (decide (PySem.W.subIn K (.ref D) (.type "BaseException") = some true) && (PySem.W.hasDictIn K D && (decide (PySem.W.findIn K (.ref D) "__class__" = some (some (.builtin "object.__class__"))) && (decide (PySem.W.specialIn K (.builtin "object.__class__") "__get__" = some (some (.builtin "getset_descriptor.__get__"))) && (decide (PySem.W.takesIn K (.builtin "object.__class__") = some true) && decide (PySem.W.mroIn K D (.type "object") = some true)))))))
theorem xcB_ok {K : PySem.W.Frag} {D : Addr} (h : xcB K D = true) : ExcC K D := by
  obtain ⟨h1, h⟩ := Bool.and_eq_true_iff.mp h
  obtain ⟨h2, h⟩ := Bool.and_eq_true_iff.mp h
  obtain ⟨h3, h⟩ := Bool.and_eq_true_iff.mp h
  obtain ⟨h4, h⟩ := Bool.and_eq_true_iff.mp h
  obtain ⟨h5, h⟩ := Bool.and_eq_true_iff.mp h
  obtain ⟨h6, h⟩ := Bool.and_eq_true_iff.mp h
  obtain ⟨h7, h8⟩ := Bool.and_eq_true_iff.mp h
  exact ⟨of_decide_eq_true h1, of_decide_eq_true h2, of_decide_eq_true h3, h4, of_decide_eq_true h5, of_decide_eq_true h6, of_decide_eq_true h7, of_decide_eq_true h8⟩
theorem ExcC.xf {K : PySem.W.Frag} {D : Addr} (h : ExcC K D) : XfC K D := ⟨h.hg, h.hk, h.hs, h.hd⟩
/-- a table of answers, looked at as a whole -/
noncomputable def tabB (f : Str → Option Bool) (l : List (Str × Bool)) : Bool := l.all fun p => decide (f p.1 = some p.2)
theorem tabB_ok {f : Str → Option Bool} {l : List (Str × Bool)} (h : tabB f l = true) : ∀ z b, l.lookup z = some b → f z = some b := fun z b e => by
  unfold tabB at h
  rw [List.all_eq_true] at h
  induction l with
  | nil => cases e
  | cons p r ih =>
    obtain ⟨q, c⟩ := p
    rw [List.lookup_cons] at e
    split at e
    · rename_i e2
      cases e
      have := h _ (List.mem_cons_self ..)
      rw [eq_of_beq e2]
      exact of_decide_eq_true this
    · exact ih (fun x hx => h x (List.mem_cons_of_mem _ hx)) e
noncomputable def allB (f : Str → Bool) (l : List Str) : Bool := l.all f
theorem allB_ok {f : Str → Bool} {l : List Str} (h : allB f l = true) : ∀ z ∈ l, f z = true := List.all_eq_true.mp h

/-! ### the exception in the slot of e -/
noncomputable def xDat (x : Xc) (a d : Addr) : Dat := match x.pay with
  | none => .exn a none x.cls []
  | some fs => .exn a (some d) x.cls fs
noncomputable def xOk (x : Xc) (dx : Option Addr) (d : Addr) : Prop := match x.pay with
  | none => dx = none
  | some _ => dx = some d
theorem repF_of {K : PySem.W.Frag} {Hf : Hp} : ∀ {fs : List (Str × Dat)} {vs : List (Str × V)}, vs.map (·.1) = fs.map (·.1) → Reps K Hf (fs.map (·.2)) (vs.map (·.2)) → RepF K Hf fs vs
  | [], [], _, _ => .nil
  | [], _ :: _, h, _ => by cases h
  | _ :: _, [], h, _ => by cases h
  | (k, d) :: fs, (k', v) :: vs, h, r => by
    simp only [List.map_cons, List.cons.injEq] at h
    obtain ⟨h1, h2⟩ := h
    subst h1
    cases r with
    | cons r1 r2 => exact .cons r1 (repF_of h2 r2)
section
variable {K : PySem.W.Frag} {np : Nat} {Hf H Hf' H' : Hp} {η η' : En} {σ σ' : St}
theorem PayAt.take {x : Xc} {dx : Option Addr} (R : Rl K Hf' H' η' σ') (S : Stp K np Hf H η σ Hf' H' η' σ') (q : PayAt K H Hf' H' x dx) :
    ∃ dd Hf2, xOk x dx dd ∧ Rl K Hf2 H' η' σ' ∧ Stp K np Hf H η σ Hf2 H' η' σ' ∧ ∀ a, Rep K Hf2 (xDat x a dd) (.ref a) := by
  obtain ⟨cls, pay⟩ := x
  cases pay with
  | none => exact ⟨0, Hf', q, R, S, fun a => .exn0⟩
  | some fs =>
    obtain ⟨d, vs, e1, h0, h1, h2, h3, h4⟩ := q
    have e : Same Hf' (upd Hf' d (.xd vs)) := same_upd h2
    have ex : Same (upd Hf' d (.xd vs)) H' := fun b o hb => by
      by_cases z : b = d
      · subst z; rw [upd_same] at hb; cases hb; exact h1
      · rw [upd_ne z] at hb; exact R.ex _ _ hb
    obtain ⟨r2, o2⟩ := R.more e ex fun b hb => by
      have nb : b ≠ d := fun z => by subst z; exact hb.kind h1
      rw [upd_ne nb]
      obtain ⟨i, d', a, F, q1, q2, q3, q4⟩ := hb
      obtain ⟨a', G, w1, w2, w3⟩ := R.ow i d' q1
      rw [q2] at w1; cases w1
      rw [q3.uniq w2] at q4
      exact w3 b q4
    refine ⟨d, upd Hf' d (.xd vs), e1, r2, ⟨S.ef.trans e, S.fr, S.nn, fun b hb => S.ow b (o2 b hb), fun b o hb => ?_, S.pr⟩, fun a => .exn upd_same ((repF_of h3 h4).mono e)⟩
    by_cases z : b = d
    · subst z; exact .inr (.inl h0)
    · rw [upd_ne z] at hb; exact S.nf _ _ hb
/-- a slot is emptied -/
theorem Rl.gone (R : Rl K Hf H η σ) (i : Nat) : Rl K Hf H (η.set i .no) (σ.set i none) ∧ Stp K np Hf H η σ Hf H (η.set i .no) (σ.set i none) := by
  have oth : ∀ (j : Nat) s, s ≠ Sl.no → (η.set i .no)[j]? = some s → j ≠ i ∧ η[j]? = some s := fun j s hs h => by
    rcases set_get h with ⟨_, h⟩ | h
    · exact absurd h hs
    · exact h
  have sg : ∀ j : Nat, j ≠ i → (σ.set i none)[j]? = σ[j]? := fun j h => List.getElem?_set_ne (Ne.symm h)
  refine ⟨⟨R.ex, by rw [List.length_set, List.length_set]; exact R.len, fun j d' h => ?_, fun j d' h => ?_, fun j k d' e' a b F G c h1 h2 h3 h4 => ?_⟩, ⟨.refl _, fun _ _ h _ => h, fun _ h => h, fun b h => ?_, fun _ _ h => .inl h, fun j d' hj h => ?_⟩⟩
  · obtain ⟨ne, h'⟩ := oth j _ (fun z => by cases z) h
    rw [sg j ne]; exact R.fr j d' h'
  · obtain ⟨ne, h'⟩ := oth j _ (fun z => by cases z) h
    rw [sg j ne]; exact R.ow j d' h'
  · obtain ⟨n1, g1⟩ := oth j _ (fun z => by cases z) h1
    obtain ⟨n2, g2⟩ := oth k _ (fun z => by cases z) h2
    rw [sg j n1] at h3; rw [sg k n2] at h4
    exact R.ap j k d' e' a b F G c g1 g2 h3 h4
  · obtain ⟨j, d', a, F, h1, h2, h3⟩ := h
    obtain ⟨ne, h'⟩ := oth j _ (fun z => by cases z) h1
    rw [sg j ne] at h2
    exact .inl ⟨j, d', a, F, h', h2, h3⟩
  · obtain ⟨ne, h'⟩ := oth j _ (fun z => by cases z) h
    exact ⟨⟨d', h'⟩, sg j ne⟩
end
/-! ### try .. except C as e -/
noncomputable def clr (i : Nat) : Rs Out → Rs Out
  | .ok o η => .ok o (η.set i .no)
  | _ => .bad
open Classical in
/-- the suite, whatever the addresses of the exception and of its dict -/
noncomputable def uni (i : Nat) (x : Xc) (S : Addr → Addr → M Out) : M Out := fun η =>
  if ∀ a d, clr i (S a d (η.set i (.fr (xDat x a d)))) = clr i (S 0 0 (η.set i (.fr (xDat x 0 0)))) then clr i (S 0 0 (η.set i (.fr (xDat x 0 0)))) else .bad
noncomputable def mTry (i : Nat) (c : List (Str × Bool)) (body : M Out) (S : Xc → Addr → Addr → M Out) : M Out := fun η => match body η with
  | .ok o η' => .ok o η'
  | .rs x η' => (match c.lookup x.cls with
    | some true => uni i x (S x) η'
    | some false => .rs x η'
    | none => .bad)
  | .bad => .bad
theorem PSs.ex {X : Cx} {sts : List Stmt} {ι : Type} {t : ι → TS} (h : ∀ k, PSs X sts (t k)) : PSs X sts (fun D σ H => ∃ k, t k D σ H) := ⟨fun pins s σ H D I ⟨k, q⟩ => (h k).run pins s σ H D I q⟩
/-- what a try's body is asked for, by the mirror of the whole -/
theorem try_read {K : PySem.W.Frag} {W : WX} {np i : Nat} {c : Value} {cl : List (Str × Bool)} {mb : M Out} {S : Xc → Addr → Addr → M Out} {Hf H : Hp} {η : En} {σ : St} {E : Ends}
    (hcl : ∀ z b, cl.lookup z = some b → PySem.W.exmOne K (.ref (He.ga K z)) c = some b) (p : Pst K np W Hf H η σ (endS K Hf H η σ E) (mTry i cl mb S η)) :
    Pst K np (wAs K c i (fun a cls dx D σ H => ∃ k : { p : Xc × Addr // cls = .ref (He.ga K p.1.cls) ∧ xOk p.1 dx p.2 }, rdS K np (fun _ _ _ _ => False) (S k.1.1 a k.1.2) D σ H) W E) Hf H η σ (endS K Hf H η σ E) (mb η) := by
  unfold mTry at p
  cases e : mb η with
  | ok o η' => rw [e] at p; exact p
  | bad => rw [e] at p; exact p
  | rs z η' =>
    rw [e] at p
    intro Hf' H' σ' dx R' S' pay
    dsimp only at p
    cases e2 : cl.lookup z.cls with
    | none => rw [e2] at p; exact False.elim p
    | some b =>
      rw [e2] at p
      refine ⟨b, hcl _ _ e2, fun hbt a na => ?_, fun hbf => ?_⟩
      · subst hbt
        dsimp only at p
        obtain ⟨dd, Hf2, o1, R2, S2, rp⟩ := pay.take R' S'
        obtain ⟨R3, S3⟩ := Rl.setF (np := np) (i := i) R2 (rp a)
        refine ⟨⟨(z, dd), rfl, o1⟩, Hf2, η'.set i (.fr (xDat z a dd)), R3, ?_⟩
        unfold uni at p
        by_cases hu : ∀ a d, clr i (S z a d (η'.set i (.fr (xDat z a d)))) = clr i (S z 0 0 (η'.set i (.fr (xDat z 0 0))))
        · rw [if_pos hu, ← hu a dd] at p
          show Pst _ _ _ _ _ _ _ _ (S z a dd (η'.set i (.fr (xDat z a dd))))
          cases e3 : S z a dd (η'.set i (.fr (xDat z a dd))) with
          | rs _ _ => rw [e3] at p; exact False.elim p
          | bad => rw [e3] at p; exact False.elim p
          | ok o η3 =>
            rw [e3] at p
            intro Hf3 H3 σ3 R4 S4
            obtain ⟨R5, S5⟩ := Rl.gone (np := np) R4 i
            have S6 := ((S2.trans S3).trans S4).trans S5
            have q := p Hf3 H3 _ R5 S6
            cases o with
            | nx => exact q
            | rt d => exact q
            | bk => exact q
            | ct => exact q
            | ro d =>
              intro pa Fo g3 fs
              refine q pa Fo g3 fun c hc => ⟨(fs c hc).1.from (S2.trans S3), (fs c hc).2.1, fun ⟨j, d', b, G, w1, w2, w3, w4⟩ => ?_⟩
              rcases set_get w1 with ⟨_, w⟩ | ⟨ne, w⟩
              · cases w
              · rw [List.getElem?_set_ne (Ne.symm ne)] at w2
                exact (fs c hc).2.2 ⟨j, d', b, G, w, w2, w3, w4⟩
        · rw [if_neg hu] at p; exact False.elim p
      · subst hbf
        dsimp only at p
        exact p Hf' H' σ' dx R' S' pay
section
variable {X : Cx} {W : WX} {np i : Nat} {x n : Str} {c : Value} {body suite : List Stmt} {b₀ : Stmt} {np' pos pos' : Pos} {cl : List (Str × Bool)} {mb : M Out} {S : Xc → Addr → Addr → M Out}
theorem ds_try (hs : X.stack = X.env :: X.outer) (hf : X.env.frame = some X.env.locals) (hN : X.N.Nodup) (hi : X.N[i]? = some n) (hln : X.env.kindOf n = some .local) (hc : Names X x c) (tk : L2N.Takes X W)
    (hcl : ∀ z b, cl.lookup z = some b → PySem.W.exmOne X.K (.ref (He.ga X.K z)) c = some b)
    (hb : ∀ (W : WX) (pn : List (Addr × Obj)) (xe : Value → Shared → Prop), L2N.Takes (X.tr pn xe) W → PassesOwn (model X.prog X.w) X.A X.env xe → DB (X.tr pn xe) W np body mb)
    (hsu : ∀ (z : Xc) (a d : Addr) (oe : Obj) (dx : Option Addr) (pn : List (Addr × Obj)), xOk z dx d → Zc (.ref (He.ga X.K z.cls)) dx oe → (∃ vs, oe.data = .fields vs) → DB (X.suite a ((a, oe) :: pn)) (fun _ _ _ _ => False) np (b₀ :: suite) (S z a d)) :
    DS X W np (.Try body [.ExceptHandler (some (.Name x np')) (some n) (b₀ :: suite) pos'] [] [] pos) (mTry i cl mb S) := by
  refine PS.wk (L2N.ps_try_as (tb := fun W => rdS X.K np W mb) (ts := fun a cls dx D σ H => ∃ k : { p : Xc × Addr // cls = .ref (He.ga X.K p.1.cls) ∧ xOk p.1 dx p.2 }, rdS X.K np (fun _ _ _ _ => False) (S k.1.1 a k.1.2) D σ H) hs hf hN hi hln hc tk hb (fun a oe cls dx pn hz hv => ?_)) fun E σ H ⟨Hf, η, R, p⟩ => ⟨Hf, η, R, ?_⟩
  · refine PSs.ex fun k => ?_
    obtain ⟨⟨z, d⟩, e, q⟩ := k
    subst e
    exact hsu z a d oe dx pn q (L2N.Zn.zc hz) hv
  · exact try_read hcl p
/-! ### in the suite: e.f, isinstance(e, C) -/
variable {a d : Addr} {dx : Option Addr} {oe : Obj} {pn : List (Addr × Obj)} {z : Xc} {f : Str} {Wf : WX}
noncomputable def xGet (cs : List Str) (z : Xc) (a d : Addr) (f : Str) : Dat → Option Dat
  | .exn a' (some d') c l => if a' = a ∧ d' = d ∧ c = z.cls ∧ z.cls ∈ cs ∧ z.pay.isSome = true then l.lookup f else none
  | _ => none
theorem de_xf {cs : List Str} {p1 p2 : Pos} (hcs : ∀ c ∈ cs, XfC X.K (He.ga X.K c) ∧ PySem.W.findIn X.K (.ref (He.ga X.K c)) f = some none) (ho : xOk z dx d) (hz : Zc (.ref (He.ga X.K z.cls)) dx oe) (hv : ∃ vs, oe.data = .fields vs)
    (h : PE (X.suite a ((a, oe) :: pn)) (.Name n p1) (tVar i)) : DE (X.suite a ((a, oe) :: pn)) Wf np (.Attribute (.Name n p1) f p2) (bnd (mVar i) fun v => lft (xGet cs z a d f v)) := by
  have hd := de_var (W := Wf) (np := np) i h
  by_cases hm : z.cls ∈ cs
  · obtain ⟨T, hno⟩ := hcs _ hm
    refine PE.wk (pe_xf (C := He.ga X.K z.cls) T hno hz hv hd) fun σ H Q ⟨Hf, η, R, p⟩ => ⟨Hf, η, R, p.bnd fun w Hf1 H1 η1 σ1 R1 S1 p1 e1 v rv => ?_⟩
    obtain ⟨r, hr, q⟩ := p1.lft R1
    unfold xGet at hr
    split at hr
    · rename_i a' d' c' l
      split at hr
      · rename_i hh
        obtain ⟨rfl, rfl, rfl, _, hp⟩ := hh
        cases rv with
        | exn h1 h2 =>
          obtain ⟨v, g1, g2⟩ := (RepF.lookup f h2).2 _ hr
          refine ⟨rfl, rfl, _, _, v, ?_, R1.ex _ _ h1, g1, q Hf1 H1 (.refl R1.ex) e1 _ g2⟩
          obtain ⟨zc, zp⟩ := z
          cases zp with
          | none => cases hp
          | some fs => exact ho
      · cases hr
    · cases hr
  · refine ⟨fun pins s σ H Q I ⟨Hf, η, R, p⟩ => ?_⟩
    exfalso
    have no : ∀ w, xGet cs z a d f w = none := fun w => by
      unfold xGet
      split
      · exact if_neg fun ⟨_, _, _, h, _⟩ => hm h
      · rfl
    unfold bnd at p
    cases e : mVar i η with
    | ok w η' => rw [e] at p; dsimp only at p; rw [no w] at p; exact p
    | rs x η' => unfold mVar at e; split at e <;> cases e
    | bad => rw [e] at p; exact p
/-- isinstance(e, c), e the exception that the suite holds, with a dict of its own or none -/
noncomputable def rIsX (K : PySem.W.Frag) (D a : Addr) (dx : Option Addr) : List V → Hp → VK → Prop := fun xs H Q => ∃ (c : V) (cv : Value) (b : Bool), xs = [.ref a, c] ∧ (∀ u, RelV c u → u = cv) ∧ PySem.W.kitOne K (.ref D) cv = some b ∧ (∀ d, dx = some d → ∃ vs, H d = some (.xd vs)) ∧ Q (.bl b) H
theorem call_isX {D : Addr} (C : ExcC X.K D) (hz : Zc (.ref D) dx oe) (hf : ∃ vs, oe.data = .fields vs) : CallR (X.suite a ((a, oe) :: pn)) (.builtin "isinstance") (rIsX X.K D a dx) := by
  intro pins s σ H xs us Q I r h
  obtain ⟨c, cv, b, rfl, hcv, e, hd, q⟩ := h
  cases r with
  | cons rx rr =>
    cases rr with
    | cons rt rr =>
      cases rr
      cases rx
      have ec := hcv _ rt
      subst ec
      obtain ⟨hget, _⟩ := I.pin (a, oe) (List.mem_append.mpr (.inl List.mem_cons_self))
      obtain ⟨vs, hv⟩ := hf
      have hnc : PySem.W.notCls oe = true := by unfold PySem.W.notCls; rw [hv] <;> rfl
      have J : ∃ od, PySem.W.InstAt s.heap a oe D od := by
        cases dx with
        | none => exact ⟨none, hget, hz.1, hnc, by rw [hz.2]; trivial⟩
        | some d =>
          obtain ⟨fs, hfs⟩ := hd d rfl
          have hx : ObjOk X.prog X.w H s.heap d (.xd fs) := I.hok d _ hfs
          obtain ⟨mA, hns, hr⟩ := hx
          obtain ⟨od, ho, hl⟩ := lookIn_ns hns
          exact ⟨some od, hget, hz.1, hnc, by rw [hz.2]; exact ho⟩
      obtain ⟨od, J⟩ := J
      have hcl : (PySem.W.clsIn X.K D).isSome = true := by
        obtain ⟨cd, hc, _⟩ := PySem.W.any_some C.hd
        rw [hc] <;> rfl
      exact PySem.W.kia_one (PySem.W.kitx_exc hcl C.hg C.hk C.hs C.ha C.hn C.ht C.hm) I.kIn J e (fun z => nomatch z) fun tk => ⟨.bl b, H, I.kept (t' := tk) fun _ _ z => z, rfl, q⟩
noncomputable def xdOf (z : Xc) (d : Addr) : Option Addr := match z.pay with
  | none => none
  | some _ => some d
/-- the answer by the class of what is handled -/
noncomputable def xIs (tb : List (Str × Bool)) (z : Xc) (a d : Addr) (c : Str ⊕ String) : List Dat → Option Dat
  | [.exn a' d' c' _, .glo C] => if a' = a ∧ d' = xdOf z d ∧ c' = z.cls ∧ c = .inl C then (tb.lookup z.cls).map .bl else none
  | [.exn a' d' c' _, .ty T] => if a' = a ∧ d' = xdOf z d ∧ c' = z.cls ∧ c = .inr T then (tb.lookup z.cls).map .bl else none
  | _ => none
noncomputable def clsV (K : PySem.W.Frag) : Str ⊕ String → Value
  | .inl C => .ref (He.ga K C)
  | .inr T => .type T
theorem exn_dict {K : PySem.W.Frag} {H : Hp} {z : Xc} {a d : Addr} {d' : Option Addr} {c' : Str} {l : List (Str × Dat)} {v : V} (ho : xOk z dx d) (e : d' = xdOf z d) (r : Rep K H (.exn a d' c' l) v) : v = .ref a ∧ ∀ d, dx = some d → ∃ vs, H d = some (.xd vs) := by
  obtain ⟨zc, zp⟩ := z
  cases zp with
  | none =>
    have e : d' = none := e
    subst e
    have ho : dx = none := ho
    subst ho
    cases r
    exact ⟨rfl, fun _ z => nomatch z⟩
  | some fs =>
    have e : d' = some d := e
    subst e
    have ho : dx = some d := ho
    subst ho
    cases r with
    | exn h r => exact ⟨rfl, fun d2 z => by cases z; exact ⟨_, h⟩⟩
theorem xIs_ok {K : PySem.W.Frag} {tb : List (Str × Bool)} {c : Str ⊕ String} (ho : xOk z dx d) (ht : ∀ w b, tb.lookup w = some b → PySem.W.kitOne K (.ref (He.ga K w)) (clsV K c) = some b) : OpC K (rIsX K (He.ga K z.cls) a dx) (xIs tb z a d c) := by
  intro Hf H xs ds dd e r h Q q
  unfold xIs at h
  split at h
  · rename_i a' d' c' l C
    split at h
    · rename_i hh
      obtain ⟨rfl, h2, rfl, rfl⟩ := hh
      obtain ⟨b, hb, rfl⟩ := Option.map_eq_some_iff.mp h
      cases r with
      | cons r1 r2 =>
        obtain ⟨rfl, hd⟩ := exn_dict ho h2 (r1.mono e)
        obtain ⟨v2, rfl, r3⟩ := r2.one'
        have : v2 = .ref (He.ga K C) := by
          rcases r3 with r3 | ⟨_, _, _, r3⟩
          · cases r3; rfl
          · cases r3
        subst this
        exact ⟨_, .ref (He.ga K C), b, rfl, fun u hu => hu, ht _ _ hb, hd, q _ Hf H (.refl e) .bl⟩
    · cases h
  · rename_i a' d' c' l C
    split at h
    · rename_i hh
      obtain ⟨rfl, h2, rfl, rfl⟩ := hh
      obtain ⟨b, hb, rfl⟩ := Option.map_eq_some_iff.mp h
      cases r with
      | cons r1 r2 =>
        obtain ⟨rfl, hd⟩ := exn_dict ho h2 (r1.mono e)
        obtain ⟨v2, rfl, r3⟩ := r2.one'
        cases r3.ty
        exact ⟨_, .type C, b, rfl, fun u hu => hu, ht _ _ hb, hd, q _ Hf H (.refl e) .bl⟩
    · cases h
  · cases h
/-- isinstance(e, C), by the classes' tests -/
theorem de_isX {tb : List (Str × Bool)} {cc : Str ⊕ String} {e1 e2 : Expr} {m1 m2 : M Dat} {p pos : Pos} (hx : ∀ w ∈ tb.map (·.1), ExcC X.K (He.ga X.K w)) (ht : ∀ w b, tb.lookup w = some b → PySem.W.kitOne X.K (.ref (He.ga X.K w)) (clsV X.K cc) = some b) (ho : xOk z dx d) (hz : Zc (.ref (He.ga X.K z.cls)) dx oe) (hv : ∃ vs, oe.data = .fields vs)
    (hg : Gl X "isinstance") (hm : X.mg "isinstance" = none) (h1 : DE (X.suite a ((a, oe) :: pn)) Wf np e1 m1) (h2 : DP (X.suite a ((a, oe) :: pn)) Wf np e2 m2)
    (he : starEach [e1, e2] X.env = (false, eval e1 X.env) :: starEach [e2] X.env := by rfl) (he2 : starEach [e2] X.env = (false, eval e2 X.env) :: starEach [] X.env := by rfl) (hpl : (backTo pos (starEach [e2] X.env)).any (·.1) = false := by rfl) :
    DE (X.suite a ((a, oe) :: pn)) Wf np (.Call (.Name "isinstance" p) [e1, e2] [] pos) (bnd m1 fun v => bnd m2 fun w => lft (xIs tb z a d cc [v, w])) := by
  cases hk : tb.lookup z.cls with
  | some b =>
    have hmem : z.cls ∈ tb.map (·.1) := by
      clear ht hx
      induction tb with
      | nil => cases hk
      | cons p r ih =>
        obtain ⟨q, c⟩ := p
        rw [List.lookup_cons] at hk
        split at hk
        · rename_i e2
          rw [List.map_cons, eq_of_beq e2]; exact List.mem_cons_self ..
        · rw [List.map_cons]; exact List.mem_cons_of_mem _ (ih hk)
    exact de_b2 (X := X.suite a ((a, oe) :: pn)) (call_isX (hx _ hmem) hz hv) (xIs_ok ho ht) hg hm (by decide +kernel) h1 h2 (by decide) (by decide) he he2 hpl
  | none =>
    refine PE.wk (pe_callB (X := X.suite a ((a, oe) :: pn)) (id := "isinstance") (call_isi3) hg hm (by decide +kernel) (pa_cons h1 (pa_cons h2 pa_nil he2) he) (by decide) (by decide) he hpl) fun σ H Q ⟨Hf, η, R, p⟩ => ⟨Hf, η, R, p.bnd fun v Hf1 H1 η1 σ1 R1 S1 p1 e1 v' rv => ?_⟩
    subst e1
    refine ⟨Hf1, η1, R1, p1.bnd fun y Hf2 H2 η2 σ2 R2 S2 p2 e2 u ru => ?_⟩
    exfalso
    have no : xIs tb z a d cc [v, y] = none := by
      unfold xIs
      split
      · rw [hk]; split <;> rfl
      · rw [hk]; split <;> rfl
      · rfl
    obtain ⟨w, hw, _⟩ := p2.lft R2
    rw [no] at hw; cases hw
end
/-! ### -x -/
noncomputable def dNeg : Dat → Option Dat
  | .int i => some (.int (-i))
  | _ => none
noncomputable abbrev negE (a : M Dat) : M Dat := bnd a fun x => lft (dNeg x)
theorem de_neg {X : Cx} {W : WX} {np : Nat} {e : Expr} {pos : Pos} {ma : M Dat} (ha : DE X W np e ma) : DE X W np (.UnaryOp .USub e pos) (negE ma) := by
  refine PE.wk (pe_un un_neg ha) fun σ H Q ⟨Hf, η, R, p⟩ => ⟨Hf, η, R, p.bnd fun x Hf1 H1 η1 σ1 R1 S1 p1 e1 v rv => ?_⟩
  subst e1
  obtain ⟨d, hd, q⟩ := p1.lft R1
  cases x <;> first | (cases hd; done) | skip
  cases hd
  cases rv
  exact ⟨_, rfl, q Hf1 H1 (.refl R1.ex) rfl _ .int⟩
/-! ### the fact of an error class with a field -/
theorem IniC.of {P : Program} {w : World} {K : PySem.W.Frag} {mg : Str → Option Value} {base : Heap} {x f qual : Str} {pa : Arguments} {sc : Scope} {dv : V} {fd : FuncData} {p1 p2 p3 p4 : Pos}
    (F : FunD K "__init__" qual pa [.Assign [.Attribute (.Name "self" p1) f p2] (.Name f p3) p4] sc [dv] [] (He.fAd K (x, some "__init__")) fd) (S : FnScope ["self", f] ["self", f] sc) (hs : Vis sc "self") (hf : Vis sc f) (T : OexC K (He.ga K x)) (hno : PySem.W.findIn K (.ref (He.ga K x)) f = some none) (hm : Meth K (He.ga K x) "__init__" (He.fAd K (x, some "__init__"))) (gC : mg x = some (.ref (He.ga K x)))
    (h : ∀ (T : Addr) (kV doc pm : Value) (an : Option Addr) (cdv ct : Value) (us its : List Value), us.length = 2 → its.length = 1 → ∃ k, bindArgs (PySem.W.fnOf "__init__" qual pa [.Assign [.Attribute (.Name "self" p1) f p2] (.Name f p3) p4] sc (.ref T) kV doc pm an cdv ct) ⟨us, []⟩ = seqItems? (.ref T) >>= k ∧ k (some its.toArray) = pure ((["self", f] : List Str).zip (us ++ its.drop 1)))
    (hd : (f == ("__debug__" : Str)) = false := by decide) (hcd : (f == ("__classdict__" : Str)) = false := by decide) : IniC P w K mg base 1 x f where
  oex := T
  gC := gC
  ini := by
    obtain ⟨ds, h1, h2⟩ := FunD.binds1 (ps := ["self", f]) F 2 1 (fun z => nomatch z) rfl h
    cases h1
    have ht : PySem.W.typeIn K (.ref (He.fAd K (x, some "__init__"))) = some (.type "function") := by
      have := hm.fn
      unfold PySem.W.isFn at this
      exact eq_of_beq this
    exact ⟨_, fd, ["self", f], rfl, hm.at_, ht, ini_ok F S hs hf T hno hd hcd, h2, ini_okH F S hs hf T hno hd hcd⟩
end D

namespace D
open PySem L2
/-! ### x not in T, T a table of the module -/
section
variable {X : Cx} {W : WX} {np : Nat} {a e : Expr} {es : List Expr} {pos pos' p : Pos} {ma : M Dat} {x : Str} {t : Addr} {l : List (Str × Dat)}
noncomputable abbrev tbNotIn (l : List (Str × Dat)) (a : M Dat) : M Dat := bnd a fun y => bnd (lft (tIn l y)) fun k => ret (.bl (!k))
theorem dt_tnin (T : TabD X.K X.w t l) (hm : X.mg x = some (.ref t)) (hg : Gl X x) (ha : DE X W np a ma) (hmk : behindInMarks .NotIn (.Name x pos') = false) (hd : (x == ("__debug__" : Str)) = false := by decide) :
    DE X W np (.Compare a [.NotIn] [.Name x pos'] pos) (tbNotIn l ma) := by
  obtain ⟨es, n, kd⟩ := T.kd
  refine PE.wk (pe_cmpR (op_notIn_kd kd) ha (pe_tab hm hg hd) hmk) fun σ H Q ⟨Hf, η, R, p⟩ => ⟨Hf, η, R, p.bnd fun y Hf1 H1 η1 σ1 R1 S1 p1 e1 v rv => ?_⟩
  subst e1
  obtain ⟨k, hk, q⟩ := p1.bndL
  unfold tIn at hk
  split at hk
  · cases rv
    cases hk
    rename_i z
    have go : ∀ r, PySem.W.nsIn X.K t z = some r → r.isSome = (lkT l z).isSome → ∃ (z' : Str) (r : Option Value), V.str z = .str z' ∧ V.ref t = .ref t ∧ PySem.W.nsIn X.K t z' = some r ∧ Q (.bl (!r.isSome)) H1 := fun r h1 h2 =>
      ⟨z, r, rfl, rfl, h1, by rw [h2]; exact q.ret R1 rfl _ .bl⟩
    cases hk : lkT l z with
    | none => exact go _ (T.none_ z hk) (by rw [hk]; rfl)
    | some d =>
      obtain ⟨u, v, h1, _, _⟩ := T.some_ z d hk
      exact go _ h1 (by rw [hk]; rfl)
  · cases hk
noncomputable abbrev tbInT (l : List (Str × Dat)) (a : M Dat) : M Bool := bnd a fun y => lft (tIn l y)
noncomputable abbrev tbNotInT (l : List (Str × Dat)) (a : M Dat) : M Bool := bnd a fun y => bnd (lft (tIn l y)) fun k => ret (!k)
theorem dtt_tin (T : TabD X.K X.w t l) (hm : X.mg x = some (.ref t)) (hg : Gl X x) (ha : DE X W np a ma) (hmk : behindInMarks .In (.Name x pos') = false) (hd : (x == ("__debug__" : Str)) = false := by decide) :
    DT X W np (.Compare a [.In] [.Name x pos'] pos) (tbInT l ma) := by
  obtain ⟨es, n, kd⟩ := T.kd
  refine PT.wk (pt_cmpR (op_in_kd kd) ha (pe_tab hm hg hd) hmk) fun σ H Q ⟨Hf, η, R, p⟩ => ⟨Hf, η, R, p.bnd fun y Hf1 H1 η1 σ1 R1 S1 p1 e1 v rv => ?_⟩
  subst e1
  obtain ⟨k, hk, q⟩ := p1.lft R1
  unfold tIn at hk
  split at hk
  · cases rv
    cases hk
    rename_i z
    cases hk : lkT l z with
    | none => exact ⟨z, none, rfl, rfl, T.none_ z hk, _, rfl, by have := q Hf1 H1 (.refl R1.ex) rfl; rw [hk] at this; exact this⟩
    | some d =>
      obtain ⟨u, v, h1, _, _⟩ := T.some_ z d hk
      exact ⟨z, some u, rfl, rfl, h1, _, rfl, by have := q Hf1 H1 (.refl R1.ex) rfl; rw [hk] at this; exact this⟩
  · cases hk
theorem dtt_tnin (T : TabD X.K X.w t l) (hm : X.mg x = some (.ref t)) (hg : Gl X x) (ha : DE X W np a ma) (hmk : behindInMarks .NotIn (.Name x pos') = false) (hd : (x == ("__debug__" : Str)) = false := by decide) :
    DT X W np (.Compare a [.NotIn] [.Name x pos'] pos) (tbNotInT l ma) := by
  obtain ⟨es, n, kd⟩ := T.kd
  refine PT.wk (pt_cmpR (op_notIn_kd kd) ha (pe_tab hm hg hd) hmk) fun σ H Q ⟨Hf, η, R, p⟩ => ⟨Hf, η, R, p.bnd fun y Hf1 H1 η1 σ1 R1 S1 p1 e1 v rv => ?_⟩
  subst e1
  obtain ⟨k, hk, q⟩ := p1.bndL
  unfold tIn at hk
  split at hk
  · cases rv
    cases hk
    rename_i z
    have q := q.ret R1 rfl
    cases hk : lkT l z with
    | none => exact ⟨z, none, rfl, rfl, T.none_ z hk, _, rfl, by rw [hk] at q; exact q⟩
    | some d =>
      obtain ⟨u, v, h1, _, _⟩ := T.some_ z d hk
      exact ⟨z, some u, rfl, rfl, h1, _, rfl, by rw [hk] at q; exact q⟩
  · cases hk
/-! ### a call of a name that holds one of several defs -/
variable {i k n : Nat} {ms : M (List Ai)}
noncomputable def tCallSL (i : Nat) (f : Addr) (sp : Sp) (dvs : List V) (E : L2.St → XK) (t : TA) : TE := fun σ H Q => σ[i]? = some (some (.ref f)) ∧ t σ H fun vs H1 => sp (vs ++ dvs) H1 Q (E σ)
theorem pe_callSL {CX : CXT} {f : Addr} {fd : FuncData} {ps : List Str} {sp : Sp} {dvs : List V} {ds : List Value} {E : L2.St → XK} {t : TA} (F : FnOk X.prog X.w X.K X.mg X.base CX k f fd ps sp) (hr : Room k X.A) (hN : X.N[i]? = some x) (hv : Vis X.env.scope x) (hk : PySem.W.keepIn X.K (.ref f) = true) (hb : Binds X.K fd ps ds) (hd : Vals dvs ds) (hx : ∀ σ, PassesAt CX X σ (E σ)) (ha : PA X (e :: es) t)
    (hdb : (x == ("__debug__" : Str)) = false := by decide) (hcd : (x == ("__classdict__" : Str)) = false := by decide)
    (he : starEach (e :: es) X.env = (false, eval e X.env) :: starEach es X.env := by rfl) (hpl : (backTo pos (starEach es X.env)).any (·.1) = false := by rfl) : PE X (.Call (.Name x p) (e :: es) [] pos) (tCallSL i f sp dvs E t) := by
  refine ⟨fun pins s σ H Q I h => ?_⟩
  obtain ⟨hs, ht⟩ := h
  refine wpAny_Call_Name_kw (thn ((pe_var (pos := p) hN hv hdb hcd).run pins s σ H (fun v H1 => v = .ref f ∧ H1 = H) I ⟨.ref f, hs, rfl, rfl⟩) fun u s1 ⟨v, H1, I1, r1, q1⟩ => ?_)
  obtain ⟨rfl, rfl⟩ := q1
  cases r1
  refine PySem.W.callWith_K (h₀ := X.base) I.ok.mod.kin hk (thn (ha.run pos pins s1 σ _ _ I1 ht) fun us s2 ⟨vs, H2, I2, r, q⟩ => ⟨I2.kIn, ?_⟩) he hpl
  exact run_fnSD F hr hb hd (hx σ) I2 r q
noncomputable def callLE (i n : Nat) (tb : List (Str × M Sl)) (ms : M (List Ai)) : M Dat := fun η => match η[i]? with
  | some (.fr (.glo f)) => (match tb.lookup f with
    | some F => (bnd ms fun its => bnd (callF n F its) fun r => lft (dRes r)) η
    | none => .bad)
  | _ => .bad
theorem PE.ex {ι : Type} {t : ι → TE} (h : ∀ k, PE X e (t k)) : PE X e (fun σ H Q => ∃ k, t k σ H Q) := ⟨fun pins s σ H Q I ⟨k, q⟩ => (h k).run pins s σ H Q I q⟩
theorem de_fnL {tb : List (Str × M Sl)} (G : ∀ f F, tb.lookup f = some F → Fn X.prog X.w X.K X.mg X.base k f n [] F) (hr : Room k X.A) (hN : X.N[i]? = some x) (hv : Vis X.env.scope x) (tk : L2N.Takes X W) (ha : DA X W np (e :: es) ms)
    (hdb : (x == ("__debug__" : Str)) = false := by decide) (hcd : (x == ("__classdict__" : Str)) = false := by decide)
    (he : starEach (e :: es) X.env = (false, eval e X.env) :: starEach es X.env := by rfl) (hpl : (backTo pos (starEach es X.env)).any (·.1) = false := by rfl) :
    DE X W np (.Call (.Name x p) (e :: es) [] pos) (callLE i n tb ms) := by
  have key : ∀ q : { q : Str × M Sl // tb.lookup q.1 = some q.2 }, PE X (.Call (.Name x p) (e :: es) [] pos) (fun σ H Q => σ[i]? = some (some (.ref (He.ga X.K q.1.1))) ∧ rdE X.K np W (bnd ms fun its => bnd (callF n q.1.2 its) fun r => lft (dRes r)) σ H Q) := fun ⟨(f, F), hf⟩ => by
    obtain ⟨fd, ps, h1, h2, ⟨ds, dvs, h3, h4, h5⟩, h6, h7⟩ := G f F hf
    have h0 : dvs = [] := by
      have := h5 (fun _ => none)
      cases this; rfl
    subst h0
    refine PE.wk (pe_lk (pe_callSL (E := WE W) h2 hr hN hv h6 h4 h3 (L2N.passAt tk) ha hdb hcd he hpl)) fun σ H Q ⟨hs, Hf, η, R, p⟩ => ⟨hs, Hf, η, R, p.bnd fun its Hf1 H1 η1 σ1 R1 S1 p1 e1 vs rvs => ?_⟩
    subst e1
    rw [List.append_nil]
    exact rd_call R1 rvs p1
  refine PE.wk (PE.ex key) fun σ H Q ⟨Hf, η, R, p⟩ => ?_
  unfold callLE at p
  split at p
  · rename_i f hf
    split at p
    · rename_i F hF
      obtain ⟨v, h1, h2⟩ := R.fr i _ hf
      cases h2
      exact ⟨⟨(f, F), hF⟩, h1, Hf, η, R, p⟩
    · exact False.elim p
  · exact False.elim p
end
/-! ### the defs of a table -/
noncomputable def FT (P : Program) (w : World) (K : PySem.W.Frag) (mg : Str → Option Value) (base : Heap) (k n : Nat) (tb : List (Str × M Sl)) : Prop := ∀ f F, tb.lookup f = some F → Fn P w K mg base k f n [] F
section
variable {P : Program} {w : World} {K : PySem.W.Frag} {mg : Str → Option Value} {base : Heap} {j k n : Nat}
theorem ftab_nil : FT P w K mg base k n [] := fun f F h => by cases h
theorem ftab_cons {f : Str} {F : M Sl} {tb : List (Str × M Sl)} (h : Fn P w K mg base j f n [] F) (hj : j ≤ k) (r : FT P w K mg base k n tb) : FT P w K mg base k n ((f, F) :: tb) := fun g G e => by
  rw [List.lookup_cons] at e
  split at e
  · rename_i q
    cases e
    rw [eq_of_beq q]
    exact h.mono hj
  · exact r g G e
end
end D

namespace D
open PySem PySem.Spec PyProof.Rows L2
/-! ### l.count(text), l a list of texts -/
noncomputable def eqz (z : Str) (v : Value) : Bool := match v with
  | .str x _ => x.cps.toList == z.cps.toList
  | _ => false
theorem eqz_gives {z : Str} {t : Tok} : ∀ {us : List Value} {ns : List Str}, StrsAre us ns → ∀ y ∈ us, MeetsSeq.EqGives y (.str z t) (eqz z y)
  | _, _, .nil => fun y hy => by cases hy
  | _, _, .cons n t' h => fun y hy => by
    rcases List.mem_cons.mp hy with e | e
    · rw [e]
      exact SeqRoads2.EqGives.str n z t' t
    · exact eqz_gives h y e
theorem eqz_count {z : Str} : ∀ {us : List Value} {ns : List Str}, StrsAre us ns → us.countP (eqz z) = ns.countP fun x => x.cps.toList == z.cps.toList
  | _, _, .nil => rfl
  | _, _, .cons n t h => by
    have ih := eqz_count (z := z) h
    rw [List.countP_cons, List.countP_cons, ih] <;> rfl
noncomputable def rCntS (K : PySem.W.Frag) : V → List V → Hp → VK → Prop := fun x xs H Q => ∃ (p : Addr) (ns : List Str) (k : Str), x = .ref p ∧ xs = [.str k] ∧ SqL K H p (ns.map V.str) ∧ Q (.int ((ns.countP fun x => x.cps.toList == k.cps.toList : Nat) : Int)) H
theorem mt_cntS {X : Cx} : MtR X "list.count" (rCntS X.K) := by
  intro pins s σ H x xs v us Q I rx rxs h
  obtain ⟨p, ns, k, rfl, rfl, hs, q⟩ := h
  cases rx
  obtain ⟨u, rfl, ru⟩ := rxs.one
  obtain ⟨t, rfl⟩ := ru
  obtain ⟨its, rv, ⟨⟨cls, dd, data, sl⟩, n, ho, hc, hdn, hd⟩, hlen⟩ := I.list hs
  simp only at hc hd
  subst hc hd
  have hi := Vals.strs rv
  refine call_meets PySem.F.slot_list_count ⟨_, ho, rfl⟩ PySem.F.entry_list_count (PySem.F.args_list_count_2 _ _)
    (SeqAt.list_countAt p its.toArray n dd sl (.str k t) (eqz k)) ⟨ho, fun y hy => (eqz_gives hi y (by simpa using hy)).at _ _, ?_⟩
  have ec : its.toArray.toList.countP (eqz k) = ns.countP fun x => x.cps.toList == k.cps.toList := eqz_count hi
  refine ⟨.int ((ns.countP fun x => x.cps.toList == k.cps.toList : Nat) : Int), H, I.tok _, ⟨s.toks, ?_⟩, q⟩
  show Value.int ((its.toArray.toList.countP (eqz k) : Nat) : Int) s.toks = _
  rw [ec]
noncomputable def dCnt : Dat → Dat → Option Dat
  | .lst l, .str k => (strs' l).map fun zs => .int ((zs.countP fun x => x.cps.toList == k.cps.toList : Nat) : Int)
  | _, _ => none
noncomputable abbrev cntE (i : Nat) (mb : M Dat) : M Dat := bnd (mPeek i) fun x => bnd (lft (isLst x)) fun _ => bnd mb fun y => bnd (mPeek i) fun x => lft (dCnt x y)
theorem de_cnt {X : Cx} {W : WX} {np : Nat} {e : Expr} {mb : M Dat} {apos pos : Pos} (i : Nat) {x : Str} {px : Pos} (h : PE X (.Name x px) (tVar i)) (hb : DE X W np e mb)
    (hm : ∀ {te : TE}, PE X e te → PE X (.Call (.Attribute (.Name x px) "count" apos) [e] [] pos) (tBM X.K "list" (rCntS X.K) (tVar i) (tCons te tNil))) :
    DE X W np (.Call (.Attribute (.Name x px) "count" apos) [e] [] pos) (cntE i mb) := by
  refine PE.wk (hm hb) fun σ H Q ⟨Hf, η, R, p⟩ => ?_
  obtain ⟨y, xv, hx, ry, p2⟩ := p.peek R
  obtain ⟨_, hy, p4⟩ := p2.bndL
  unfold isLst at hy
  split at hy
  · obtain ⟨a0, xs0, rfl, q1, q2⟩ := ry.lst R.ex
    refine ⟨_, hx, .inl ⟨rfl, xs0, SqL.of q1⟩, Hf, η, R, p4.bnd fun d Hf2 H2 η2 σ2 R2 S2 p3 e2 v rv => ?_⟩
    subst e2
    obtain ⟨dx, v', h1, h2, p5⟩ := p3.peek R2
    rw [hx] at h1; cases h1
    obtain ⟨z, hz, q⟩ := p5.lft R2
    unfold dCnt at hz
    split at hz
    · rename_i l k
      obtain ⟨zs, hzs, rfl⟩ := Option.map_eq_some_iff.mp hz
      obtain ⟨a, xs, e, h3, h4⟩ := h2.lst R2.ex
      cases e
      have ex := strs'_ok h4 hzs
      subst ex
      cases rv
      exact ⟨_, zs, k, rfl, rfl, SqL.of h3, q Hf2 H2 (.refl R2.ex) rfl _ .int⟩
    · cases hz
  · cases hy
end D

namespace D
open PySem PySem.Spec PyProof.Rows L2
/-! ### tuple(text) -/
noncomputable def sgnV (x : Str) : List V := x.cps.toList.map fun c => V.str ⟨#[c]⟩
theorem vals_signs {x : Str} {acc : Array Value} (h : ItemsOf (SignAt x) acc x.cps.size) : Vals (sgnV x) acc.toList := by
  have e : acc.toList.length = x.cps.toList.length := by rw [Array.length_toList, Array.length_toList]; exact h.1
  have e2 : sgnV x = (List.range acc.toList.length).map fun i => V.str ⟨#[(x.cps.toList[i]?).getD 0]⟩ := by
    unfold sgnV
    refine List.ext_getElem? fun i => ?_
    rw [List.getElem?_map, List.getElem?_map]
    by_cases hi : i < x.cps.toList.length
    · rw [List.getElem?_range (by omega)]
      show _ = some (V.str ⟨#[(x.cps.toList[i]?).getD 0]⟩)
      rw [List.getElem?_eq_getElem hi]; rfl
    · rw [List.getElem?_eq_none (by omega), List.getElem?_eq_none (by rw [List.length_range]; omega)]; rfl
  rw [e2]
  refine vals_of_get acc.toList _ fun j u hj => ?_
  obtain ⟨c, t, hc, rfl⟩ := h.2 j u (by rw [← hj, Array.getElem?_toList])
  refine ⟨t, ?_⟩
  rw [Array.getElem?_toList, hc]; rfl
theorem call_tupS {X : Cx} (hc : X.calm = true) : CallR X (.type "tuple") (fun xs H Q => ∃ x : Str, xs = [.str x] ∧ x.length ≤ 1000 ∧ ∀ l, H l = none → Q (.ref l) (upd H l (.tup (sgnV x)))) := by
  intro pins s σ H xs us Q I r h
  obtain ⟨x, rfl, hx, q⟩ := h
  obtain ⟨u, rfl, rx⟩ := vals1 r
  obtain ⟨t, rfl⟩ := rx
  have hx' : x.cps.size ≤ 1000 := hx
  refine call_tuple_str (I.ok.hd hc) x t (fun h' tk acc hk hi => ?_) (by rw [sizeLine_eq]; omega)
  have I2 : Inv X pins σ H { s with heap := h', toks := tk } := I.kept hk
  refine ⟨.ref h'.objs.size, upd H h'.objs.size (.tup (sgnV x)), I2.laid (t' := tk) (fun c o e => Heap.get?_push_of_some _ e) (Nat.le_refl _) (show ObjOk X.prog X.w _ _ _ (.tup (sgnV x)) from ⟨?_, acc.toList, vals_signs hi, ?_⟩), rfl, q _ (I2.hok.fresh (Nat.le_refl _))⟩
  · unfold sgnV; rw [List.length_map, Array.length_toList, sizeLine_eq]; omega
  · rw [Array.toArray_toList]; exact IsTup.new _ _
noncomputable def dTupS : List Dat → Option Dat
  | [.str x] => if x.length ≤ 1000 then some (.tup (x.cps.toList.map fun c => .str ⟨#[c]⟩)) else none
  | _ => none
theorem reps_signs {K : PySem.W.Frag} {H : Hp} : ∀ l : List Nat, Reps K H (l.map fun c => Dat.str ⟨#[c]⟩) (l.map fun c => V.str ⟨#[c]⟩)
  | [] => .nil
  | _ :: l => .cons .str (reps_signs l)
theorem dTupS_ok {K : PySem.W.Frag} : OpC K (fun xs H Q => ∃ x : Str, xs = [.str x] ∧ x.length ≤ 1000 ∧ ∀ l, H l = none → Q (.ref l) (upd H l (.tup (sgnV x)))) dTupS := by
  intro Hf H xs ds d e r h Q q
  unfold dTupS at h
  split at h
  · split at h
    · rename_i x hx
      cases h
      obtain ⟨v, rfl, rv⟩ := r.one'
      cases rv.str
      refine ⟨x, rfl, hx, fun l n => ?_⟩
      have ex := Ext.new (u := .tup (sgnV x)) e n
      exact q _ _ _ ex (.tup (.inl upd_same) (reps_signs _))
    · cases h
  · cases h
end D


namespace D
open PySem L2

/-! ### mirrors by what is wanted behind them -/
@[irreducible] noncomputable def Ev {α : Type} (m : M α) (η : En) (P : α → En → Prop) (E : Xc → En → Prop) : Prop := match m η with
  | .ok a η' => P a η'
  | .rs x η' => E x η'
  | .bad => False
noncomputable abbrev NX : Xc → En → Prop := fun _ _ => False
section
variable {α β : Type} {η : En} {E : Xc → En → Prop}
theorem Ev.ok {m : M α} {P : α → En → Prop} (h : Ev m η P NX) : ∃ a η', m η = .ok a η' ∧ P a η' := by
  unfold Ev at h
  cases e : m η with
  | ok a η' => rw [e] at h; exact ⟨a, η', rfl, h⟩
  | rs x η' => rw [e] at h; exact False.elim h
  | bad => rw [e] at h; exact False.elim h
theorem Ev.mono {m : M α} {P P' : α → En → Prop} {E E' : Xc → En → Prop} (h : Ev m η P E) (hp : ∀ a η', P a η' → P' a η') (he : ∀ x η', E x η' → E' x η') : Ev m η P' E' := by
  unfold Ev at h ⊢
  cases e : m η with
  | ok a η' => rw [e] at h; exact hp _ _ h
  | rs x η' => rw [e] at h; exact he _ _ h
  | bad => rw [e] at h; exact h
theorem Ev.imp {m : M α} {P P' : α → En → Prop} (h : Ev m η P NX) (hp : ∀ a η', P a η' → P' a η') : Ev m η P' E := h.mono hp fun _ _ z => z.elim
theorem Ev.of_ok {m : M α} {P : α → En → Prop} {a : α} {η' : En} (h : m η = .ok a η') (p : P a η') : Ev m η P E := by unfold Ev; rw [h]; exact p
theorem wp_bnd {m : M α} {f : α → M β} {P : β → En → Prop} : Ev (bnd m f) η P E ↔ Ev m η (fun a η' => Ev (f a) η' P E) E := by
  unfold Ev bnd
  cases m η <;> exact Iff.rfl
theorem wp_ret {a : α} {P : α → En → Prop} : Ev (D.ret a) η P E ↔ P a η := by unfold Ev; exact Iff.rfl
theorem wp_lft {o : Option α} {P : α → En → Prop} : Ev (lft o) η P E ↔ ∃ a, o = some a ∧ P a η := by
  unfold Ev lft
  cases o with
  | none => exact ⟨fun z => z.elim, fun ⟨_, h, _⟩ => by cases h⟩
  | some a => exact ⟨fun h => ⟨a, rfl, h⟩, fun ⟨_, h, p⟩ => by cases h; exact p⟩
theorem wp_some {a : α} {P : α → En → Prop} : Ev (lft (some a)) η P E ↔ P a η := by unfold Ev; exact Iff.rfl
theorem wp_none {P : α → En → Prop} : Ev (lft none) η P E ↔ False := by unfold Ev; exact Iff.rfl
theorem wp_stk {P : α → En → Prop} : Ev stk η P E ↔ False := by unfold Ev; exact Iff.rfl
theorem wp_ite {c : Prop} [Decidable c] {m1 m2 : M α} {P : α → En → Prop} : Ev (if c then m1 else m2) η P E ↔ if c then Ev m1 η P E else Ev m2 η P E := by
  by_cases h : c
  · rw [if_pos h, if_pos h]
  · rw [if_neg h, if_neg h]
theorem wp_mVar {i : Nat} {P : Dat → En → Prop} : Ev (mVar i) η P E ↔ match η[i]? with
    | some (.fr d) => P d η
    | some (.ow d) => P (dfr d) (η.set i (.fr (dfr d)))
    | _ => False := by
  unfold Ev mVar
  cases η[i]? with
  | none => exact Iff.rfl
  | some s => cases s <;> exact Iff.rfl
theorem wp_mPeek {i : Nat} {P : Dat → En → Prop} : Ev (mPeek i) η P E ↔ match η[i]? with
    | some (.fr d) => P d η
    | some (.ow d) => P d η
    | _ => False := by
  unfold Ev mPeek
  cases η[i]? with
  | none => exact Iff.rfl
  | some s => cases s <;> exact Iff.rfl
theorem wp_sSet {i : Nat} {d : Dat} {P : Out → En → Prop} : Ev (sSet i d) η P E ↔ P .nx (η.set i (.fr d)) := by unfold Ev; exact Iff.rfl
theorem wp_sSetO {np i : Nat} {d : Dat} {P : Out → En → Prop} : Ev (sSetO np i d) η P E ↔ if i < np then False else P .nx (η.set i (.ow d)) := by
  unfold Ev sSetO
  by_cases h : i < np
  · simp only [h, if_true]
  · simp only [h, if_false]
theorem wp_gSet {i : Nat} {d : Dat} {P : Unit → En → Prop} : Ev (gSet i d) η P E ↔ P () (η.set i (.fr d)) := by unfold Ev; exact Iff.rfl
theorem wp_sRetV {i : Nat} {P : Out → En → Prop} : Ev (sRetV i) η P E ↔ match η[i]? with
    | some (.fr d) => P (.rt d) η
    | some (.ow d) => P (.ro d) (η.set i .no)
    | _ => False := by
  unfold Ev sRetV
  cases η[i]? with
  | none => exact Iff.rfl
  | some s => cases s <;> exact Iff.rfl
theorem wp_owSet {i : Nat} {f : Dat → Option Dat} {P : Unit → En → Prop} : Ev (owSet i f) η P E ↔ match η[i]? with
    | some (.ow d) => ∃ d', f d = some d' ∧ P () (η.set i (.ow d'))
    | _ => False := by
  unfold Ev owSet
  cases η[i]? with
  | none => exact Iff.rfl
  | some s =>
    cases s with
    | no => exact Iff.rfl
    | fr d => exact Iff.rfl
    | ow d =>
      cases e : f d with
      | none => exact ⟨fun z => by simp only [e] at z, fun ⟨_, h, _⟩ => by cases e.symm.trans h⟩
      | some d' => exact ⟨fun z => ⟨d', e, by simpa only [e] using z⟩, fun ⟨_, h, p⟩ => by cases e.symm.trans h; simpa only [e] using p⟩
theorem wp_callF {n : Nat} {F : M Sl} {its : List Ai} {P : Sl → En → Prop} : Ev (callF n F its) η P E ↔ ((ios its).Nodup ∧ its.length = n) ∧ Ev F (argS η its) (fun r as => P r (putBack its as η)) (fun x as => E x (putBack its as η)) := by
  unfold Ev callF
  by_cases h : (ios its).Nodup ∧ its.length = n
  · simp only [if_pos h]
    cases F (argS η its) <;> simp [h]
  · simp only [if_neg h]
    simp [h]
theorem wp_sq {m1 m2 : M Out} {P : Out → En → Prop} : Ev (sq m1 m2) η P E ↔ Ev m1 η (fun o η' => match o with
    | .nx => Ev m2 η' P E
    | o => P o η') E := by
  unfold sq
  rw [wp_bnd]
  unfold Ev
  cases m1 η with
  | ok o η' => cases o <;> exact Iff.rfl
  | rs x η' => exact Iff.rfl
  | bad => exact Iff.rfl
theorem wp_nox {m : M α} {P : α → En → Prop} : Ev (nox m) η P E ↔ Ev m η P NX := by
  unfold Ev nox
  cases m η <;> exact Iff.rfl
theorem wp_wipeM {vs : List Nat} {P : Unit → En → Prop} : Ev (wipeM vs) η P E ↔ P () (wipeE η vs) := by unfold Ev; exact Iff.rfl
/-- what a def hands back -/
noncomputable def finS (P : Sl → En → Prop) (as : En) : Out → En → Prop
  | .nx, η => ∃ as', bk as η = some as' ∧ P (.fr .non) as'
  | .rt d, η => ∃ as', bk as η = some as' ∧ P (.fr d) as'
  | .ro d, η => ∃ as', bk as η = some as' ∧ P (.ow d) as'
  | _, _ => False
theorem wp_mkF {n : Nat} {body : M Out} {P : Sl → En → Prop} {as : En} (h : Ev body (as ++ List.replicate (n - as.length) .no) (finS P as) (fun x η => ∃ as', bk as η = some as' ∧ E x as')) : Ev (mkF n body) as P E := by
  unfold Ev mkF at *
  cases e : body (as ++ List.replicate (n - as.length) .no) with
  | ok o η' =>
    rw [e] at h
    cases o with
    | nx => obtain ⟨as', h1, h2⟩ := h; simp only [h1]; exact h2
    | rt d => obtain ⟨as', h1, h2⟩ := h; simp only [h1]; exact h2
    | ro d => obtain ⟨as', h1, h2⟩ := h; simp only [h1]; exact h2
    | bk => exact h
    | ct => exact h
  | rs x η' => rw [e] at h; obtain ⟨as', h1, h2⟩ := h; simp only [h1]; exact h2
  | bad => rw [e] at h; exact h
/-- a for by its invariant -/
theorem wp_for {f : Dat → M Unit} {body : M Out} {P : Out → En → Prop} (I : List Dat → En → Prop)
    (hs : ∀ d ds η, I (d :: ds) η → Ev (f d) η (fun _ η1 => Ev body η1 (fun o η2 => match o with
      | .nx => I ds η2
      | .ct => I ds η2
      | .bk => P .nx η2
      | o => P o η2) E) E) (hd : ∀ η, I [] η → P .nx η) : ∀ {items : List Dat} {η : En}, I items η → Ev (mFor f body items) η P E
  | [], η, h => by unfold mFor; exact wp_ret.mpr (hd η h)
  | d :: ds, η, h => by
    unfold mFor
    rw [wp_bnd]
    refine (hs d ds η h).mono (fun _ η1 h1 => ?_) fun _ _ z => z
    rw [wp_bnd]
    refine h1.mono (fun o η2 h2 => ?_) fun _ _ z => z
    cases o with
    | nx => exact wp_for I hs hd h2
    | ct => exact wp_for I hs hd h2
    | bk => exact wp_ret.mpr h2
    | rt d => exact wp_ret.mpr h2
    | ro d => exact wp_ret.mpr h2
/-- a comprehension by its invariant: what is made so far, what is left -/
theorem wp_lcGo {vs : List Nat} {f : Dat → M Unit} {mt : M Bool} {me : M Dat} {Q : List Dat → En → Prop} (I : List Dat → List Dat → En → Prop)
    (hs : ∀ acc d ds η, I acc (d :: ds) η → Ev (f d) η (fun _ η1 => Ev mt η1 (fun k η2 => if k = true then Ev me η2 (fun y η3 => I (acc ++ [y]) ds (wipeE η3 vs)) NX else I acc ds (wipeE η2 vs)) NX) NX)
    (hd : ∀ acc η, I acc [] η → Q acc η) : ∀ {items acc : List Dat} {η : En}, I acc items η → Ev (lcGo vs f mt me items) η (fun r η' => Q (acc ++ r) η') E
  | [], acc, η, h => by
    unfold lcGo
    refine wp_ret.mpr ?_
    rw [List.append_nil]; exact hd acc η h
  | d :: ds, acc, η, h => by
    unfold lcGo
    simp only [wp_bnd, wp_nox, wp_ite]
    refine (hs acc d ds η h).mono (fun _ η1 h1 => h1.mono (fun k η2 h2 => ?_) fun _ _ z => z.elim) fun _ _ z => z.elim
    cases k with
    | true =>
      simp only [if_true] at h2 ⊢
      refine Ev.mono h2 (fun y η3 h3 => ?_) fun _ _ z => z.elim
      rw [wp_wipeM, ]
      refine (wp_lcGo I hs hd h3).mono (fun r η' q => ?_) fun _ _ z => z
      refine wp_ret.mpr ?_
      rw [List.append_assoc] at q; exact q
    | false =>
      simp only [Bool.false_eq_true, if_false] at h2 ⊢
      rw [wp_wipeM]
      exact wp_lcGo I hs hd h2
theorem wp_mLc {vs : List Nat} {f : Dat → M Unit} {mt : M Bool} {me : M Dat} {P : Dat → En → Prop} {items : List Dat} (I : List Dat → List Dat → En → Prop) (hf : fits items.length = true)
    (hs : ∀ acc d ds η, I acc (d :: ds) η → Ev (f d) η (fun _ η1 => Ev mt η1 (fun k η2 => if k = true then Ev me η2 (fun y η3 => I (acc ++ [y]) ds (wipeE η3 vs)) NX else I acc ds (wipeE η2 vs)) NX) NX)
    (hd : ∀ acc η, I acc [] η → P (.lst acc) η) (h0 : I [] items (wipeE η vs)) : Ev (mLc vs f mt me items) η P E := by
  unfold mLc
  rw [if_pos hf, wp_bnd, wp_wipeM, wp_bnd]
  exact (wp_lcGo (Q := fun r η' => P (.lst r) η') I hs hd h0).mono (fun r η' q => wp_ret.mpr q) fun _ _ z => z
/-- a pure comprehension, no test: the items' image -/
theorem wp_lcMap {vs : List Nat} {f : Dat → M Unit} {me : M Dat} {P : Dat → En → Prop} {items : List Dat} (g : Dat → Dat) (hf : fits items.length = true)
    (hs : ∀ d, d ∈ items → Ev (f d) (wipeE η vs) (fun _ η1 => Ev me η1 (fun y η3 => y = g d ∧ wipeE η3 vs = wipeE η vs) NX) NX)
    (hd : P (.lst (items.map g)) (wipeE η vs)) : Ev (mLc vs f (D.ret true) me items) η P E := by
  refine wp_mLc (fun acc ds η' => η' = wipeE η vs ∧ ∃ pre, items = pre ++ ds ∧ acc = pre.map g) hf (fun acc d ds η' ⟨h1, pre, h2, h3⟩ => ?_) (fun acc η' ⟨h1, pre, h2, h3⟩ => ?_) ⟨rfl, [], rfl, rfl⟩
  · subst h1
    refine (hs d (by rw [h2]; simp)).mono (fun _ η1 h => ?_) fun _ _ z => z
    refine wp_ret.mpr ?_
    show Ev me η1 _ NX
    refine h.mono (fun y η3 ⟨e1, e2⟩ => ?_) fun _ _ z => z
    refine ⟨e2, pre ++ [d], by rw [h2]; simp, ?_⟩
    rw [e1, h3, List.map_append]; rfl
  · rw [List.append_nil] at h2
    rw [h1, h3, ← h2]; exact hd

/-- the same over a list of indices -/
theorem wp_lcMapI {ι : Type} {η : En} {E : Xc → En → Prop} {vs : List Nat} {f : Dat → M Unit} {me : M Dat} {P : Dat → En → Prop} (l : List ι) (f0 g0 : ι → Dat) (hf : l.length ≤ 1000000)
    (hs : ∀ a, a ∈ l → Ev (f (f0 a)) (wipeE η vs) (fun _ η1 => Ev me η1 (fun y η3 => y = g0 a ∧ wipeE η3 vs = wipeE η vs) NX) NX)
    (hd : P (.lst (l.map g0)) (wipeE η vs)) : Ev (mLc vs f (D.ret true) me (l.map f0)) η P E := by
  refine wp_mLc (fun acc ds η' => η' = wipeE η vs ∧ ∃ pre post, l = pre ++ post ∧ ds = post.map f0 ∧ acc = pre.map g0) (by rw [List.length_map]; exact decide_eq_true hf) (fun acc d ds η' ⟨h1, pre, post, h2, h3, h4⟩ => ?_) (fun acc η' ⟨h1, pre, post, h2, h3, h4⟩ => ?_) ⟨rfl, [], l, rfl, rfl, rfl⟩
  · subst h1
    cases post with
    | nil => cases h3
    | cons a post =>
      cases h3
      refine (hs a (by rw [h2]; simp)).mono (fun _ η1 h => ?_) fun _ _ z => z
      refine wp_ret.mpr ?_
      show Ev me η1 _ NX
      refine h.mono (fun y η3 ⟨e1, e2⟩ => ?_) fun _ _ z => z
      refine ⟨e2, pre ++ [a], post, by rw [h2]; simp, rfl, ?_⟩
      rw [e1, h4, List.map_append]; rfl
  · cases post with
    | nil =>
      rw [List.append_nil] at h2
      rw [h1, h4, ← h2]; exact hd
    | cons a post => cases h3
/-! ### step by step -/
section
variable {α β : Type} {η : En} {E : Xc → En → Prop} {P : α → En → Prop} {i np n : Nat} {d : Dat} {PD : Dat → En → Prop} {PO : Out → En → Prop} {PU : Unit → En → Prop} {PS : Sl → En → Prop}
theorem w_bnd {m : M β} {f : β → M α} (h : Ev m η (fun a η' => Ev (f a) η' P E) E) : Ev (bnd m f) η P E := wp_bnd.mpr h
theorem w_ret {a : α} (h : P a η) : Ev (D.ret a) η P E := wp_ret.mpr h
theorem w_lft {o : Option α} {a : α} (e : o = some a) (h : P a η) : Ev (lft o) η P E := wp_lft.mpr ⟨a, e, h⟩
theorem w_var (e : η[i]? = some (.fr d)) (h : PD d η) : Ev (mVar i) η PD E := by rw [wp_mVar, e]; exact h
theorem w_varO (e : η[i]? = some (.ow d)) (h : PD (dfr d) (η.set i (.fr (dfr d)))) : Ev (mVar i) η PD E := by rw [wp_mVar, e]; exact h
theorem w_peek (e : η[i]? = some (.fr d)) (h : PD d η) : Ev (mPeek i) η PD E := by rw [wp_mPeek, e]; exact h
theorem w_peekO (e : η[i]? = some (.ow d)) (h : PD d η) : Ev (mPeek i) η PD E := by rw [wp_mPeek, e]; exact h
theorem w_set {η' : En} (e : η.set i (.fr d) = η') (h : PO .nx η') : Ev (sSet i d) η PO E := by subst e; exact wp_sSet.mpr h
theorem w_gset {η' : En} (e : η.set i (.fr d) = η') (h : PU () η') : Ev (gSet i d) η PU E := by subst e; exact wp_gSet.mpr h
theorem w_setO {η' : En} (hi : ¬ i < np) (e : η.set i (.ow d) = η') (h : PO .nx η') : Ev (sSetO np i d) η PO E := by subst e; rw [wp_sSetO, if_neg hi]; exact h
theorem w_retV (e : η[i]? = some (.fr d)) (h : PO (.rt d) η) : Ev (sRetV i) η PO E := by rw [wp_sRetV, e]; exact h
theorem w_retVO {η' : En} (e : η[i]? = some (.ow d)) (e2 : η.set i .no = η') (h : PO (.ro d) η') : Ev (sRetV i) η PO E := by subst e2; rw [wp_sRetV, e]; exact h
theorem w_owSet {f : Dat → Option Dat} {d' : Dat} {η' : En} (e : η[i]? = some (.ow d)) (ef : f d = some d') (e2 : η.set i (.ow d') = η') (h : PU () η') : Ev (owSet i f) η PU E := by subst e2; rw [wp_owSet, e]; exact ⟨d', ef, h⟩
theorem w_sq {m1 m2 : M Out} (h : Ev m1 η (fun o η' => match o with
    | .nx => Ev m2 η' PO E
    | o => PO o η') E) : Ev (sq m1 m2) η PO E := wp_sq.mpr h
theorem w_if {k : Bool} {m1 m2 : M α} (h1 : k = true → Ev m1 η P E) (h2 : k = false → Ev m2 η P E) : Ev (if k = true then m1 else m2) η P E := by
  cases k with
  | true => exact h1 rfl
  | false => exact h2 rfl
theorem w_ifT {m1 m2 : M α} (h1 : Ev m1 η P E) : Ev (if true = true then m1 else m2) η P E := h1
theorem w_ifF {m1 m2 : M α} (h1 : Ev m2 η P E) : Ev (if false = true then m1 else m2) η P E := h1
theorem w_ifNT {m1 m2 : M α} (h1 : Ev m2 η P E) : Ev (if (!true) = true then m1 else m2) η P E := h1
theorem w_ifNF {m1 m2 : M α} (h1 : Ev m1 η P E) : Ev (if (!false) = true then m1 else m2) η P E := h1
theorem w_not {k : Bool} {m1 m2 : M α} (h : Ev (if k = true then m2 else m1) η P E) : Ev (if (!k) = true then m1 else m2) η P E := by
  cases k <;> exact h
/-- marks: here the walk waits -/
theorem w_isIn {a b : Dat} {PB : Bool → En → Prop} (h : Ev (lft (dIn a b)) η PB E) : Ev (lft (dIn a b)) η PB E := h
theorem w_isNotIn {a b : Dat} {PB : Bool → En → Prop} (h : Ev (lft (dNotIn a b)) η PB E) : Ev (lft (dNotIn a b)) η PB E := h
theorem w_same {β : Type} {a : β} {dd : Decidable (a = a)} {m1 m2 : M α} (h1 : Ev m1 η P E) : Ev (if @decide (a = a) dd = true then m1 else m2) η P E := by
  rw [decide_eq_true rfl]; exact h1
theorem w_TF {dd : Decidable (true = false)} {m1 m2 : M α} (h1 : Ev m2 η P E) : Ev (if @decide (true = false) dd = true then m1 else m2) η P E := by
  rw [decide_eq_false (fun h => by cases h)]; exact h1
theorem w_FT {dd : Decidable (false = true)} {m1 m2 : M α} (h1 : Ev m2 η P E) : Ev (if @decide (false = true) dd = true then m1 else m2) η P E := by
  rw [decide_eq_false (fun h => by cases h)]; exact h1
theorem w_gtup {f : List Dat → M Unit} {l : List Dat} (h : Ev (f l) η PU E) : Ev (gTup' f (.tup l)) η PU E := h
theorem w_gcons {f : Dat → M Unit} {g : List Dat → M Unit} {l : List Dat} (h : Ev (f d) η (fun _ η' => Ev (g l) η' PU E) E) : Ev (gCons' f g (d :: l)) η PU E := wp_bnd.mpr h
theorem w_gnil (h : PU () η) : Ev (gNil' []) η PU E := wp_ret.mpr h
theorem w_ifV {k : Bool} {a b : α} (h : P (if k = true then a else b) η) : Ev (if k = true then D.ret a else D.ret b) η P E := by
  cases k <;> exact wp_ret.mpr h
theorem w_lookT {m : M Bool} {PB : Bool → En → Prop} (h : Ev m (frz η) (fun k _ => PB k η) NX) : Ev (lookT m) η PB E := by
  obtain ⟨k, η', h1, h2⟩ := h.ok
  unfold Ev lookT
  rw [h1]
  exact h2
theorem w_lookE {m : M Dat} (h : Ev m (frz η) (fun d _ => ndk d = true ∧ PD d η) NX) : Ev (lookE m) η PD E := by
  obtain ⟨k, η', h1, h2, h3⟩ := h.ok
  unfold Ev lookE
  rw [h1]
  simp only [if_pos h2]
  exact h3
theorem w_pdec {c a b : Prop} [Decidable c] (h1 : c → a) (h2 : ¬ c → b) : if decide c = true then a else b := by
  by_cases h : c
  · rw [decide_eq_true h]; exact h1 h
  · rw [decide_eq_false h]; exact h2 h
theorem w_pbool {k : Bool} {a b : Prop} (h1 : k = true → a) (h2 : k = false → b) : if k = true then a else b := by
  cases k
  · exact h2 rfl
  · exact h1 rfl
theorem wp_lcEq {vs : List Nat} {f : Dat → M Unit} {mt : M Bool} {me : M Dat} {items items' : List Dat} (e : items = items') (h : Ev (mLc vs f mt me items') η PD E) : Ev (mLc vs f mt me items) η PD E := by rw [e]; exact h
theorem wp_forEq {f : Dat → M Unit} {body : M Out} {items items' : List Dat} (e : items = items') (h : Ev (mFor f body items') η PO E) : Ev (mFor f body items) η PO E := by rw [e]; exact h
theorem w_isIsi {l : List Dat} (h : Ev (lft (dIsi l)) η PD E) : Ev (lft (dIsi l)) η PD E := h
theorem w_propT {p q : Prop} (h : p) : if true = true then p else q := h
theorem w_propF {p q : Prop} (h : q) : if false = true then p else q := h
/-- a test on numbers or the like -/
theorem w_dec {p : Prop} [Decidable p] {m1 m2 : M α} (h1 : p → Ev m1 η P E) (h2 : ¬ p → Ev m2 η P E) : Ev (if decide p = true then m1 else m2) η P E := by
  by_cases h : p
  · rw [decide_eq_true h]; exact h1 h
  · rw [decide_eq_false h]; exact h2 h
/-- a def's call: its promise, then the rest -/
theorem w_call {F : M Sl} {its : List Ai} {as : En} {Q : Sl → En → Prop} (js : List Nat) (e : argS η its = as) (e2 : ios its = js) (hn : js.Nodup) (hl : its.length = n) (h : Ev F as Q NX) (k : ∀ r as', Q r as' → PS r (putBack its as' η)) : Ev (callF n F its) η PS E := by
  subst e; subst e2
  exact wp_callF.mpr ⟨⟨hn, hl⟩, h.imp k⟩
theorem w_callX {F : M Sl} {its : List Ai} {as : En} {Q : Sl → En → Prop} {EX : Xc → En → Prop} (js : List Nat) (e : argS η its = as) (e2 : ios its = js) (hn : js.Nodup) (hl : its.length = n) (h : Ev F as Q EX) (k : ∀ r as', Q r as' → PS r (putBack its as' η)) (kx : ∀ x as', EX x as' → E x (putBack its as' η)) : Ev (callF n F its) η PS E := by
  subst e; subst e2
  exact wp_callF.mpr ⟨⟨hn, hl⟩, h.mono k kx⟩
theorem w_callS {F : M Sl} {its : List Ai} {as : En} {Q : Sl → En → Prop} (h : Ev F as Q NX) (k : ∀ r as', Q r as' → PS r (putBack its as' η)) (e : argS η its = as := by rfl) (hn : decide (ios its).Nodup = true := by rfl) (hl : its.length = n := by rfl) : Ev (callF n F its) η PS E := by
  subst e
  exact wp_callF.mpr ⟨⟨of_decide_eq_true hn, hl⟩, h.imp k⟩
theorem w_callG {F : M Sl} {its : List Ai} (hn : decide (ios its).Nodup = true) (hl : its.length = n) (h : Ev F (argS η its) (fun r as' => PS r (putBack its as' η)) (fun x as' => E x (putBack its as' η))) : Ev (callF n F its) η PS E :=
  wp_callF.mpr ⟨⟨of_decide_eq_true hn, hl⟩, h⟩
theorem w_cut {m1 m2 : M Out} (Mid : En → Prop) (h1 : Ev m1 η (fun o η' => o = .nx ∧ Mid η') E) (h2 : ∀ η', Mid η' → Ev m2 η' PO E) : Ev (sq m1 m2) η PO E := by
  refine w_sq (h1.mono (fun o η' ⟨e, h⟩ => ?_) fun _ _ z => z)
  subst e
  exact h2 η' h
theorem w_mod {a b : Int} (hb : 0 < b) (h : ∀ r, 0 ≤ r → r < b → PD (.int r) η) : Ev (lft (dMod (.int a) (.int b))) η PD E :=
  w_lft (if_pos hb) (h _ (Int.emod_nonneg _ (by omega)) (Int.emod_lt_of_pos _ hb))
theorem w_mul {a b : Int} (hc : CMul a b) (h : PD (.int (a * b)) η) : Ev (lft (dMul (.int a) (.int b))) η PD E := w_lft (if_pos hc) h
theorem w_div {a b : Int} (hc : 0 < b ∧ b < 2 ^ 200) (h : PD (.int (a / b)) η) : Ev (lft (dDiv (.int a) (.int b))) η PD E := w_lft (if_pos hc) h
theorem w_pow {a b : Int} (hc : CPow a b) (h : PD (.int (a ^ b.toNat)) η) : Ev (lft (dPow (.int a) (.int b))) η PD E := w_lft (if_pos hc) h
theorem w_addS {a b : Str} (hc : a.length + b.length ≤ 1000000) (h : PD (.str (a ++ b)) η) : Ev (lft (dAdd (.str a) (.str b))) η PD E := w_lft (if_pos (decide_eq_true hc)) h
theorem w_lenS {a : Str} (hc : a.length ≤ 1000000) (h : PD (.int a.length) η) : Ev (lft (dLen [.str a])) η PD E := w_lft (if_pos (decide_eq_true hc)) h
theorem w_ixS {z : Str} {i : Int} (hz : z.length ≤ 1000000) (h0 : 0 ≤ i) (h1 : i < z.length) (h : ∀ c, z.cps.toList[i.toNat]? = some c → c ∈ z.cps.toList → PD (.str ⟨#[c]⟩) η) : Ev (lft (dIx (.str z) (.int i))) η PD E := by
  have hl : i.toNat < z.cps.toList.length := by
    have : z.length = z.cps.toList.length := by simp [Str.length]
    omega
  have e : atI z.cps.toList i = some (z.cps.toList[i.toNat]) := by
    unfold atI ixN
    rw [if_pos h0, if_pos (by omega)]
    exact List.getElem?_eq_getElem hl
  refine w_lft (a := .str ⟨#[z.cps.toList[i.toNat]]⟩) ?_ (h _ (List.getElem?_eq_getElem hl) (List.getElem_mem hl))
  show (if fits z.length = true then (atI z.cps.toList i).map fun c => Dat.str ⟨#[c]⟩ else none) = _
  rw [if_pos (show fits z.length = true from decide_eq_true hz), e]; rfl
theorem w_ixL {l : List Dat} {i : Int} (h0 : 0 ≤ i) (h1 : i < l.length) (h : ∀ x, l[i.toNat]? = some x → x ∈ l → PD x η) : Ev (lft (dIx (.lst l) (.int i))) η PD E := by
  have hl : i.toNat < l.length := by omega
  have e : atI l i = some (l[i.toNat]) := by
    unfold atI ixN
    rw [if_pos h0, if_pos (by omega)]
    exact List.getElem?_eq_getElem hl
  exact w_lft (a := l[i.toNat]) e (h _ (List.getElem?_eq_getElem hl) (List.getElem_mem hl))
theorem w_fin_rt {as as' : En} (e : bk as η = some as') (h : PS (.fr d) as') : finS PS as (.rt d) η := ⟨as', e, h⟩
theorem w_fin_ro {as as' : En} (e : bk as η = some as') (h : PS (.ow d) as') : finS PS as (.ro d) η := ⟨as', e, h⟩
theorem w_fin_nx {as as' : En} (e : bk as η = some as') (h : PS (.fr .non) as') : finS PS as .nx η := ⟨as', e, h⟩
end
end
end D

namespace D
open PySem L2
/-! ### texts as lists of codes -/
noncomputable abbrev cds (x : Str) : List Nat := x.cps.toList
theorem cds_app (a b : Str) : cds (a ++ b) = cds a ++ cds b := by
  show (a.cps ++ b.cps).toList = _
  simp
theorem len_cds (x : Str) : x.length = (cds x).length := by simp [Str.length]
theorem str_ext {a b : Str} (h : cds a = cds b) : a = b := by
  obtain ⟨a⟩ := a
  obtain ⟨b⟩ := b
  have : a = b := Array.toList_inj.mp h
  rw [this]
theorem cds_one (c : Nat) : cds ⟨#[c]⟩ = [c] := rfl
theorem cds_join0 {e : Str} (he : cds e = []) : ∀ ys : List Str, cds (Str.join e ys) = (ys.map cds).flatten
  | [] => rfl
  | [x] => by show cds x = _; simp
  | x :: y :: r => by
    show cds (x ++ e ++ Str.join e (y :: r)) = _
    rw [cds_app, cds_app, he, cds_join0 he (y :: r), List.append_nil]
    rfl
theorem txt_join (e : Str) (ys : List Str) : Txt.join e ys = Str.join e ys := StrLaws.glued_eq_join e ys
theorem len_join0 {e : Str} (he : cds e = []) (ys : List Str) : (Txt.join e ys).length = (ys.map (·.length)).sum := by
  rw [txt_join, len_cds, cds_join0 he, List.length_flatten]
  congr 1
  rw [List.map_map]
  apply List.map_congr_left
  intro a _
  simp [len_cds]
theorem strs_map {ι : Type} (l : List ι) (f : ι → Str) : strs' (l.map fun a => .str (f a)) = some (l.map f) := by
  induction l with
  | nil => rfl
  | cons a r ih => show (strs' (r.map fun a => .str (f a))).map (f a :: ·) = _; rw [ih]; rfl
theorem bools_map {ι : Type} (l : List ι) (f : ι → Bool) : bools (l.map fun a => .bl (f a)) = some (l.map f) := by
  induction l with
  | nil => rfl
  | cons a r ih => show (bools (r.map fun a => .bl (f a))).map (f a :: ·) = _; rw [ih]; rfl
theorem flats_map {ι : Type} (l : List ι) (f : ι → Str) : flatDs (l.map fun a => .str (f a)) = some (l.map fun a => V.str (f a)) := by
  induction l with
  | nil => rfl
  | cons a r ih => show ((flatD (.str (f a))).bind fun v => (flatDs (r.map fun a => .str (f a))).map fun vs => v :: vs) = _; rw [ih]; rfl
theorem flats_str (l : List Str) : flatDs (l.map .str) = some (l.map .str) := by
  induction l with
  | nil => rfl
  | cons a r ih => show ((flatD (.str a)).bind fun v => (flatDs (r.map .str)).map fun vs => v :: vs) = _; rw [ih]; rfl
theorem din_strs {x : Str} (l : List Str) : dIn (.str x) (.lst (l.map .str)) = some (inV (.str x) (l.map .str)) := by
  unfold dIn
  simp only [flats_str]
  rfl
theorem din_strsT {x : Str} (l : List Str) : dIn (.str x) (.tup (l.map .str)) = some (inV (.str x) (l.map .str)) := by
  unfold dIn
  simp only [flats_str]
  rfl
theorem dAll_map {ι : Type} (l : List ι) (f : ι → Bool) : dAll [.lst (l.map fun a => .bl (f a))] = some (.bl (l.all f)) := by
  show (bools _).map _ = _
  rw [bools_map]
  show some (Dat.bl ((l.map f).all id)) = _
  rw [List.all_map]; rfl
theorem dAny_map {ι : Type} (l : List ι) (f : ι → Bool) : dAny [.lst (l.map fun a => .bl (f a))] = some (.bl (l.any f)) := by
  show (bools _).map _ = _
  rw [bools_map]
  show some (Dat.bl ((l.map f).any id)) = _
  rw [List.any_map]; rfl
theorem sing_lt {a b : Nat} : (([a] : List Nat) < [b]) ↔ a < b := by
  constructor
  · intro h
    cases h with
    | rel h => exact h
    | cons h => cases h
  · intro h
    exact List.Lex.rel h
theorem dLe_sign1 {s : Str} {k c : Nat} (hs : cds s = [k]) : dLe (.str s) (.str ⟨#[c]⟩) = some (decide (k ≤ c)) := by
  show some (!decide ((cds ⟨#[c]⟩) < cds s)) = _
  rw [hs, cds_one]
  by_cases h : k ≤ c
  · rw [decide_eq_true h, decide_eq_false (fun z => by have := sing_lt.mp z; omega)]; rfl
  · rw [decide_eq_false h, decide_eq_true (sing_lt.mpr (by omega))]; rfl
theorem dLe_sign2 {s : Str} {k c : Nat} (hs : cds s = [k]) : dLe (.str ⟨#[c]⟩) (.str s) = some (decide (c ≤ k)) := by
  show some (!decide (cds s < (cds ⟨#[c]⟩))) = _
  rw [hs, cds_one]
  by_cases h : c ≤ k
  · rw [decide_eq_true h, decide_eq_false (fun z => by have := sing_lt.mp z; omega)]; rfl
  · rw [decide_eq_false h, decide_eq_true (sing_lt.mpr (by omega))]; rfl
theorem dEq_sign {s : Str} {k c : Nat} (hs : cds s = [k]) : dEq (.str ⟨#[c]⟩) (.str s) = some (decide (c = k)) := by
  show some (decide ((⟨#[c]⟩ : Str) = s)) = _
  by_cases h : c = k
  · rw [decide_eq_true h, decide_eq_true (str_ext (by rw [hs, cds_one, h]))]
  · rw [decide_eq_false h, decide_eq_false fun z => h (by rw [← z, cds_one] at hs; exact (List.cons.inj hs).1)]
theorem dIn_sign {c : Nat} {z : Str} : dIn (.str ⟨#[c]⟩) (.str z) = some (decide (c ∈ cds z)) := rfl
noncomputable def isLet (c : Nat) : Bool := decide (97 ≤ c ∧ c ≤ 122)
noncomputable def isFig (c : Nat) : Bool := decide (48 ≤ c ∧ c ≤ 57)
theorem letters_cds : cds "abcdefghijklmnopqrstuvwxyz" = List.range' 97 26 := by decide +kernel
theorem figures_cds : cds "0123456789" = List.range' 48 10 := by decide +kernel
theorem mem_letters {c : Nat} : decide (c ∈ cds "abcdefghijklmnopqrstuvwxyz") = isLet c := by
  rw [letters_cds]
  unfold isLet
  apply decide_eq_decide.mpr
  rw [List.mem_range'_1]; omega
theorem mem_figures {c : Nat} : decide (c ∈ cds "0123456789") = isFig c := by
  rw [figures_cds]
  unfold isFig
  apply decide_eq_decide.mpr
  rw [List.mem_range'_1]; omega
theorem mem_app {c : Nat} {a b : Str} : decide (c ∈ cds (a ++ b)) = (decide (c ∈ cds a) || decide (c ∈ cds b)) := by
  rw [cds_app]
  by_cases h1 : c ∈ cds a <;> by_cases h2 : c ∈ cds b <;> simp [h1, h2]
theorem dIn_let {c : Nat} : dIn (.str ⟨#[c]⟩) (.str "abcdefghijklmnopqrstuvwxyz") = some (isLet c) := by rw [dIn_sign, mem_letters]
theorem dNotIn_let {c : Nat} : dNotIn (.str ⟨#[c]⟩) (.str "abcdefghijklmnopqrstuvwxyz") = some (!isLet c) := by
  show (dIn _ _).map _ = _
  rw [dIn_let]; rfl
theorem eq_sign {s : Str} {k c : Nat} (hs : cds s = [k]) : decide ((⟨#[c]⟩ : Str) = s) = decide (c = k) := by
  have := dEq_sign (c := c) hs
  exact Option.some.inj this
/-! isinstance of what is plain -/
theorem isi_bl {b : Bool} {c : String} {k : Bool} (h : isi1 "bool" c = some k) : dIsi [.bl b, .ty c] = some (.bl k) := by show (isi1 "bool" c).map Dat.bl = _; rw [h]; rfl
theorem isi_int {b : Int} {c : String} {k : Bool} (h : isi1 "int" c = some k) : dIsi [.int b, .ty c] = some (.bl k) := by show (isi1 "int" c).map Dat.bl = _; rw [h]; rfl
theorem isi_str {b : Str} {c : String} {k : Bool} (h : isi1 "str" c = some k) : dIsi [.str b, .ty c] = some (.bl k) := by show (isi1 "str" c).map Dat.bl = _; rw [h]; rfl
theorem isi_non {c : String} {k : Bool} (h : isi1 "NoneType" c = some k) : dIsi [.non, .ty c] = some (.bl k) := by show (isi1 "NoneType" c).map Dat.bl = _; rw [h]; rfl
theorem isi_lst {l : List Dat} {c : String} {k : Bool} (h : isi1 "list" c = some k) : dIsi [.lst l, .ty c] = some (.bl k) := by show (isi1 "list" c).map Dat.bl = _; rw [h]; rfl
theorem isi_tup {l : List Dat} {c : String} {k : Bool} (h : isi1 "tuple" c = some k) : dIsi [.tup l, .ty c] = some (.bl k) := by show (isi1 "tuple" c).map Dat.bl = _; rw [h]; rfl
theorem isi_dic {l : List (Key × Dat)} {c : String} {k : Bool} (h : isi1 "dict" c = some k) : dIsi [.dic l, .ty c] = some (.bl k) := by show (isi1 "dict" c).map Dat.bl = _; rw [h]; rfl
/-- isinstance(x, (int, str)) -/
theorem isi_any {d : Dat} {cs : List String} {k : Bool} (hn : notScr d = true) (h : kAny (tyN d) cs = some k) : dIsi [d, .tup (cs.map .ty)] = some (.bl k) := by
  show (if notScr d = true then ((tys (cs.map .ty)).bind (kAny (tyN d))).map Dat.bl else none) = _
  have e : ∀ cs : List String, tys (cs.map .ty) = some cs := fun cs => by
    induction cs with
    | nil => rfl
    | cons a r ih => show (tys (r.map .ty)).map (a :: ·) = _; rw [ih]; rfl
  rw [if_pos hn, e]
  show (kAny (tyN d) cs).map Dat.bl = _
  rw [h]; rfl
theorem isi_two {d : Dat} {t a b : String} {k : Bool} (ht : tyN d = t) (hn : notScr d = true) (h : kAny t [a, b] = some k) : dIsi [d, .tup [.ty a, .ty b]] = some (.bl k) := by
  subst ht
  exact isi_any (cs := [a, b]) hn h
theorem isi_str_bool {b : Str} : dIsi [.str b, .ty "bool"] = some (.bl false) := isi_str (by decide +kernel)
theorem isi_str_int {b : Str} : dIsi [.str b, .ty "int"] = some (.bl false) := isi_str (by decide +kernel)
theorem isi_str_str {b : Str} : dIsi [.str b, .ty "str"] = some (.bl true) := isi_str (by decide +kernel)
theorem isi_str_list {b : Str} : dIsi [.str b, .ty "list"] = some (.bl false) := isi_str (by decide +kernel)
theorem isi_str_tuple {b : Str} : dIsi [.str b, .ty "tuple"] = some (.bl false) := isi_str (by decide +kernel)
theorem isi_str_dict {b : Str} : dIsi [.str b, .ty "dict"] = some (.bl false) := isi_str (by decide +kernel)
theorem isi_str_is {b : Str} : dIsi [.str b, .tup [.ty "int", .ty "str"]] = some (.bl true) := isi_two (t := "str") rfl rfl (by decide +kernel)
theorem isi_int_bool {b : Int} : dIsi [.int b, .ty "bool"] = some (.bl false) := isi_int (by decide +kernel)
theorem isi_int_int {b : Int} : dIsi [.int b, .ty "int"] = some (.bl true) := isi_int (by decide +kernel)
theorem isi_int_str {b : Int} : dIsi [.int b, .ty "str"] = some (.bl false) := isi_int (by decide +kernel)
theorem isi_int_list {b : Int} : dIsi [.int b, .ty "list"] = some (.bl false) := isi_int (by decide +kernel)
theorem isi_int_tuple {b : Int} : dIsi [.int b, .ty "tuple"] = some (.bl false) := isi_int (by decide +kernel)
theorem isi_int_dict {b : Int} : dIsi [.int b, .ty "dict"] = some (.bl false) := isi_int (by decide +kernel)
theorem isi_int_is {b : Int} : dIsi [.int b, .tup [.ty "int", .ty "str"]] = some (.bl true) := isi_two (t := "int") rfl rfl (by decide +kernel)
theorem isi_bl_bool {b : Bool} : dIsi [.bl b, .ty "bool"] = some (.bl true) := isi_bl (by decide +kernel)
theorem isi_bl_int {b : Bool} : dIsi [.bl b, .ty "int"] = some (.bl true) := isi_bl (by decide +kernel)
theorem isi_bl_str {b : Bool} : dIsi [.bl b, .ty "str"] = some (.bl false) := isi_bl (by decide +kernel)
theorem isi_bl_list {b : Bool} : dIsi [.bl b, .ty "list"] = some (.bl false) := isi_bl (by decide +kernel)
theorem isi_bl_tuple {b : Bool} : dIsi [.bl b, .ty "tuple"] = some (.bl false) := isi_bl (by decide +kernel)
theorem isi_bl_dict {b : Bool} : dIsi [.bl b, .ty "dict"] = some (.bl false) := isi_bl (by decide +kernel)
theorem isi_bl_is {b : Bool} : dIsi [.bl b, .tup [.ty "int", .ty "str"]] = some (.bl true) := isi_two (t := "bool") rfl rfl (by decide +kernel)
theorem isi_lst_bool {b : List Dat} : dIsi [.lst b, .ty "bool"] = some (.bl false) := isi_lst (by decide +kernel)
theorem isi_lst_int {b : List Dat} : dIsi [.lst b, .ty "int"] = some (.bl false) := isi_lst (by decide +kernel)
theorem isi_lst_str {b : List Dat} : dIsi [.lst b, .ty "str"] = some (.bl false) := isi_lst (by decide +kernel)
theorem isi_lst_list {b : List Dat} : dIsi [.lst b, .ty "list"] = some (.bl true) := isi_lst (by decide +kernel)
theorem isi_lst_tuple {b : List Dat} : dIsi [.lst b, .ty "tuple"] = some (.bl false) := isi_lst (by decide +kernel)
theorem isi_lst_dict {b : List Dat} : dIsi [.lst b, .ty "dict"] = some (.bl false) := isi_lst (by decide +kernel)
theorem isi_lst_is {b : List Dat} : dIsi [.lst b, .tup [.ty "int", .ty "str"]] = some (.bl false) := isi_two (t := "list") rfl rfl (by decide +kernel)
theorem isi_tup_bool {b : List Dat} : dIsi [.tup b, .ty "bool"] = some (.bl false) := isi_tup (by decide +kernel)
theorem isi_tup_int {b : List Dat} : dIsi [.tup b, .ty "int"] = some (.bl false) := isi_tup (by decide +kernel)
theorem isi_tup_str {b : List Dat} : dIsi [.tup b, .ty "str"] = some (.bl false) := isi_tup (by decide +kernel)
theorem isi_tup_list {b : List Dat} : dIsi [.tup b, .ty "list"] = some (.bl false) := isi_tup (by decide +kernel)
theorem isi_tup_tuple {b : List Dat} : dIsi [.tup b, .ty "tuple"] = some (.bl true) := isi_tup (by decide +kernel)
theorem isi_tup_dict {b : List Dat} : dIsi [.tup b, .ty "dict"] = some (.bl false) := isi_tup (by decide +kernel)
theorem isi_tup_is {b : List Dat} : dIsi [.tup b, .tup [.ty "int", .ty "str"]] = some (.bl false) := isi_two (t := "tuple") rfl rfl (by decide +kernel)
theorem isi_dic_bool {b : List (Key × Dat)} : dIsi [.dic b, .ty "bool"] = some (.bl false) := isi_dic (by decide +kernel)
theorem isi_dic_int {b : List (Key × Dat)} : dIsi [.dic b, .ty "int"] = some (.bl false) := isi_dic (by decide +kernel)
theorem isi_dic_str {b : List (Key × Dat)} : dIsi [.dic b, .ty "str"] = some (.bl false) := isi_dic (by decide +kernel)
theorem isi_dic_list {b : List (Key × Dat)} : dIsi [.dic b, .ty "list"] = some (.bl false) := isi_dic (by decide +kernel)
theorem isi_dic_tuple {b : List (Key × Dat)} : dIsi [.dic b, .ty "tuple"] = some (.bl false) := isi_dic (by decide +kernel)
theorem isi_dic_dict {b : List (Key × Dat)} : dIsi [.dic b, .ty "dict"] = some (.bl true) := isi_dic (by decide +kernel)
theorem isi_dic_is {b : List (Key × Dat)} : dIsi [.dic b, .tup [.ty "int", .ty "str"]] = some (.bl false) := isi_two (t := "dict") rfl rfl (by decide +kernel)
theorem isi_non_bool : dIsi [.non, .ty "bool"] = some (.bl false) := isi_non (by decide +kernel)
theorem isi_non_int : dIsi [.non, .ty "int"] = some (.bl false) := isi_non (by decide +kernel)
theorem isi_non_str : dIsi [.non, .ty "str"] = some (.bl false) := isi_non (by decide +kernel)
theorem isi_non_list : dIsi [.non, .ty "list"] = some (.bl false) := isi_non (by decide +kernel)
theorem isi_non_tuple : dIsi [.non, .ty "tuple"] = some (.bl false) := isi_non (by decide +kernel)
theorem isi_non_dict : dIsi [.non, .ty "dict"] = some (.bl false) := isi_non (by decide +kernel)
theorem isi_non_is : dIsi [.non, .tup [.ty "int", .ty "str"]] = some (.bl false) := isi_two (t := "NoneType") rfl rfl (by decide +kernel)
theorem inV_strs {x : Str} (l : List Str) : inV (.str x) (l.map .str) = decide (x ∈ l) := by
  unfold inV
  rw [List.any_map]
  induction l with
  | nil => rfl
  | cons a r ih =>
    rw [List.any_cons, ih]
    show ((a == x) || decide (x ∈ r)) = _
    by_cases h1 : a = x
    · subst h1; simp
    · have h2 : ¬ x = a := fun z => h1 z.symm
      simp [h1, h2]
theorem din_l {x : Str} (l : List Str) : dIn (.str x) (.lst (l.map .str)) = some (decide (x ∈ l)) := by rw [din_strs, inV_strs]
theorem din_t {x : Str} (l : List Str) : dIn (.str x) (.tup (l.map .str)) = some (decide (x ∈ l)) := by rw [din_strsT, inV_strs]
theorem dnin_l {x : Str} (l : List Str) : dNotIn (.str x) (.lst (l.map .str)) = some (!decide (x ∈ l)) := by
  show (dIn _ _).map _ = _
  rw [din_l]; rfl
theorem dnin_t {x : Str} (l : List Str) : dNotIn (.str x) (.tup (l.map .str)) = some (!decide (x ∈ l)) := by
  show (dIn _ _).map _ = _
  rw [din_t]; rfl
end D

namespace D
open PySem L2
/-! ### try, raise: what is wanted behind them -/
section
variable {η : En} {E : Xc → En → Prop} {P : Out → En → Prop} {i : Nat} {cl : List (Str × Bool)} {mb : M Out} {S : Xc → Addr → Addr → M Out}
/-- what a suite makes of an exception -/
noncomputable def Sui (i : Nat) (S : Xc → Addr → Addr → M Out) (P : Out → En → Prop) (x : Xc) (η : En) : Prop := ∃ o η2, (∀ a d, Ev (S x a d) (η.set i (.fr (xDat x a d))) (fun o' η3 => o' = o ∧ η3.set i .no = η2) NX) ∧ P o η2
theorem wp_uni {x : Xc} (h : Sui i S P x η) : Ev (uni i x (S x)) η P E := by
  obtain ⟨o, η2, h1, h2⟩ := h
  have key : ∀ a d, clr i (S x a d (η.set i (.fr (xDat x a d)))) = .ok o η2 := fun a d => by
    obtain ⟨o', η3, e, e1, e2⟩ := (h1 a d).ok
    rw [e, ← e1, ← e2]; rfl
  unfold Ev uni
  rw [if_pos (fun a d => by rw [key, key]), key]
  exact h2
theorem wp_try (h : Ev mb η P (fun x η' => (cl.lookup x.cls = some true ∧ Sui i S P x η') ∨ (cl.lookup x.cls = some false ∧ E x η'))) : Ev (mTry i cl mb S) η P E := by
  have hu : ∀ x η', Sui i S P x η' → Ev (uni i x (S x)) η' P E := fun x η' => wp_uni
  unfold Ev at h hu ⊢
  unfold mTry
  cases e : mb η with
  | ok o η' => rw [e] at h; exact h
  | bad => rw [e] at h; exact h
  | rs x η' =>
    rw [e] at h
    rcases h with ⟨h1, h2⟩ | ⟨h1, h2⟩
    · dsimp only
      rw [h1]; exact hu x η' h2
    · dsimp only
      rw [h1]; exact h2
theorem wp_rse {x : Xc} (h : E x η) : Ev (rse x) η P E := by unfold Ev; exact h
end
end D

/-! equality of nested data, dicts too; x in l, l.count(x), l.index(x), l.remove(x) by it -/
namespace D.EqL
open PySem PySem.MeetsSeq PySem.MeetsSeq2 PySem.MeetsSeq3 PySem.SeqRoads2 PySem.SeqAt
open PySem.AutoSeq1 (wpAny_loadPart')
section
variable {P : Program} {w : World}
noncomputable abbrev LObj (its : Array Value) (n : Nat) (dd : Option Addr) (sl : Array (Option Value)) : Obj := { cls := .type "list", dict := dd, data := .seq its n, slots := sl }
/-- each item answers by its place -/
noncomputable def Ans (P : Program) (w : World) (A : Around) (s : Shared) (its : Array Value) (x : Value) (e : Nat → Bool) : Prop := ∀ j (hj : j < its.size), EqIn P w A.in1 s its[j] x (e j)
theorem drop_range {m i : Nat} (h : i < m) : (List.range m).drop i = i :: (List.range m).drop (i + 1) := by
  rw [List.drop_eq_getElem_cons (by rw [List.length_range]; exact h)]
  simp
theorem has_loop (l : Addr) (its : Array Value) (n : Nat) (dd : Option Addr) (sl : Array (Option Value)) (x : Value) (e : Nat → Bool) : ∀ (m i : Nat), its.size - i = m →
    MeetsIn P w (Builtin.«list.__contains__.loop» ⟨[.ref l, x, rawInt i], []⟩) fun A R s => s.heap.get? l = some (LObj its n dd sl) ∧ Ans P w A s its x e ∧ R (.ok (.ret (.bool (((List.range its.size).drop i).any e)))) s := by
  intro m
  induction m with
  | zero =>
    intro i im A R ⟨hp0, g0, dr0, tk0, os0⟩ ⟨hl, he, hR⟩
    wp_walk using wpAny_loadPart' hl
    have no : its[((i : Nat) : Int).toNat]? = none := by simp; omega
    have nd : (List.range its.size).drop i = [] := by simp; omega
    rw [no]
    rw [nd] at hR
    wp_walk
    exact hR
  | succ m ih =>
    intro i im A R ⟨hp0, g0, dr0, tk0, os0⟩ ⟨hl, he, hR⟩
    have lt : i < its.size := by omega
    wp_walk using wpAny_loadPart' hl
    have yes : its[((i : Nat) : Int).toNat]? = some its[i] := by simp [lt]
    rw [yes]
    rw [drop_range lt, List.any_cons] at hR
    refine wpAny_bind (he i lt _ _ ?_)
    cases hb : e i with
    | true =>
      rw [hb] at hR
      wp_walk
      exact hR
    | false =>
      rw [hb] at hR
      have up : ((i : Int) + 1) = ((i + 1 : Nat) : Int) := by push_cast; rfl
      wp_walk
      rw [up]
      refine ⟨plainId_quiet plain_contains_loop _, codeAny_builtin entry_contains_loop ?_⟩
      rw [Around.under_plainId plain_contains_loop _]
      exact ih (i + 1) (by omega) A R _ ⟨hl, he, by simpa using hR⟩
theorem has_run (l : Addr) (its : Array Value) (n : Nat) (dd : Option Addr) (sl : Array (Option Value)) (x : Value) (e : Nat → Bool) :
    MeetsIn P w (Builtin.«list.__contains__» ⟨[.ref l, x], []⟩) fun A R s => s.heap.get? l = some (LObj its n dd sl) ∧ Ans P w A s its x e ∧ R (.ok (.ret (.bool ((List.range its.size).any e)))) s := by
  intro A R ⟨hp0, g0, dr0, tk0, os0⟩ ⟨hl, he, hR⟩
  wp_walk using wpAny_loadPart' hl
  refine ⟨plainId_quiet plain_contains_loop _, codeAny_builtin entry_contains_loop ?_⟩
  rw [Around.under_plainId plain_contains_loop _]
  exact has_loop l its n dd sl x e _ 0 rfl A R _ ⟨hl, he, by simpa using hR⟩
theorem num_loop (l : Addr) (its : Array Value) (n : Nat) (dd : Option Addr) (sl : Array (Option Value)) (x : Value) (e : Nat → Bool) : ∀ (m i : Nat) (c : Int), its.size - i = m →
    MeetsIn P w (Builtin.«list.count.loop» ⟨[.ref l, x, rawInt i, rawInt c], []⟩) fun A R s => s.heap.get? l = some (LObj its n dd sl) ∧ Ans P w A s its x e ∧ R (.ok (.ret (.int (c + ((((List.range its.size).drop i).countP e : Nat) : Int)) s.toks))) { s with toks := s.toks + 1 } := by
  intro m
  induction m with
  | zero =>
    intro i c im A R ⟨hp0, g0, dr0, tk0, os0⟩ ⟨hl, he, hR⟩
    wp_walk using wpAny_loadPart' hl
    have no : its[((i : Nat) : Int).toNat]? = none := by simp; omega
    have nd : (List.range its.size).drop i = [] := by simp; omega
    rw [no]
    rw [nd] at hR
    wp_walk
    simpa using hR
  | succ m ih =>
    intro i c im A R ⟨hp0, g0, dr0, tk0, os0⟩ ⟨hl, he, hR⟩
    have lt : i < its.size := by omega
    wp_walk using wpAny_loadPart' hl
    have yes : its[((i : Nat) : Int).toNat]? = some its[i] := by simp [lt]
    have up : ((i : Int) + 1) = ((i + 1 : Nat) : Int) := by push_cast; rfl
    rw [yes]
    rw [drop_range lt, List.countP_cons] at hR
    refine wpAny_bind (he i lt _ _ ?_)
    wp_walk
    rw [up]
    refine ⟨plainId_quiet plain_count_loop _, codeAny_builtin entry_count_loop ?_⟩
    rw [Around.under_plainId plain_count_loop _]
    refine ih (i + 1) _ (by omega) A R _ ⟨hl, he, ?_⟩
    cases hb : e i with
    | false =>
      simp only [hb, Bool.false_eq_true, if_false, Nat.add_zero] at hR ⊢
      exact hR
    | true =>
      simp only [hb, if_true] at hR ⊢
      have q : c + 1 + ((List.countP e (List.drop (i + 1) (List.range its.size)) : Nat) : Int) = c + ((List.countP e (List.drop (i + 1) (List.range its.size)) + 1 : Nat) : Int) := by push_cast; omega
      rw [q]
      exact hR
theorem num_run (l : Addr) (its : Array Value) (n : Nat) (dd : Option Addr) (sl : Array (Option Value)) (x : Value) (e : Nat → Bool) :
    MeetsIn P w (Builtin.«list.count» ⟨[.ref l, x], []⟩) fun A R s => s.heap.get? l = some (LObj its n dd sl) ∧ Ans P w A s its x e ∧ R (.ok (.ret (.int (((List.range its.size).countP e : Nat) : Int) s.toks))) { s with toks := s.toks + 1 } := by
  intro A R ⟨hp0, g0, dr0, tk0, os0⟩ ⟨hl, he, hR⟩
  wp_walk using wpAny_loadPart' hl
  refine ⟨plainId_quiet plain_count_loop _, codeAny_builtin entry_count_loop ?_⟩
  rw [Around.under_plainId plain_count_loop _]
  exact num_loop l its n dd sl x e _ 0 0 rfl A R _ ⟨hl, he, by simpa using hR⟩
theorem at_loop (l : Addr) (its : Array Value) (n : Nat) (dd : Option Addr) (sl : Array (Option Value)) (x : Value) (e : Nat → Bool) (top : Int) (j : Nat) (hj : j < its.size) (ht : (j : Int) < top) (hit : e j = true) : ∀ (m i : Nat), j - i = m → i ≤ j → (∀ k, i ≤ k → k < j → e k = false) →
    MeetsIn P w (Builtin.«list.index.loop» ⟨[.ref l, x, rawInt i, rawInt top], []⟩) fun A R s => s.heap.get? l = some (LObj its n dd sl) ∧ Ans P w A s its x e ∧ R (.ok (.ret (.int j s.toks))) { s with toks := s.toks + 1 } := by
  intro m
  induction m with
  | zero =>
    intro i im ij no A R ⟨hp0, g0, dr0, tk0, os0⟩ ⟨hl, he, hR⟩
    obtain rfl : i = j := by omega
    wp_walk using wpAny_loadPart' hl
    have yes : (if (i : Int) < top then its[((i : Nat) : Int).toNat]? else none) = some its[i] := by simp [ht, hj]
    rw [yes]
    refine wpAny_bind (he i hj _ _ ?_)
    rw [hit]
    wp_walk
    exact hR
  | succ m ih =>
    intro i im ij no A R ⟨hp0, g0, dr0, tk0, os0⟩ ⟨hl, he, hR⟩
    have lt : i < its.size := by omega
    have lo : (i : Int) < top := by omega
    wp_walk using wpAny_loadPart' hl
    have yes : (if (i : Int) < top then its[((i : Nat) : Int).toNat]? else none) = some its[i] := by simp [lo, lt]
    have up : ((i : Int) + 1) = ((i + 1 : Nat) : Int) := by push_cast; rfl
    rw [yes]
    refine wpAny_bind (he i lt _ _ ?_)
    rw [no i (Nat.le_refl _) (by omega)]
    wp_walk
    rw [up]
    refine ⟨plainId_quiet plain_index_loop _, codeAny_builtin entry_index_loop ?_⟩
    rw [Around.under_plainId plain_index_loop _]
    exact ih (i + 1) (by omega) (by omega) (fun k h1 h2 => no k (by omega) h2) A R _ ⟨hl, he, hR⟩
theorem at_run (l : Addr) (its : Array Value) (n : Nat) (dd : Option Addr) (sl : Array (Option Value)) (x : Value) (e : Nat → Bool) (j : Nat) (hj : j < its.size) (ht : (j : Int) < 2 ^ 63 - 1) (hit : e j = true) (no : ∀ k, k < j → e k = false) :
    MeetsIn P w (Builtin.«list.index» ⟨[.ref l, x], []⟩) fun A R s => s.heap.get? l = some (LObj its n dd sl) ∧ Ans P w A s its x e ∧ R (.ok (.ret (.int j s.toks))) { s with toks := s.toks + 1 } := by
  intro A R ⟨hp0, g0, dr0, tk0, os0⟩ ⟨hl, he, hR⟩
  wp_walk using wpAny_loadPart' hl
  have q1 : ((fun i : Int => if i < 0 then max 0 (i + (its.size : Int)) else i) ((none : Option Int).getD 0)) = ((0 : Nat) : Int) := by simp
  have q2 : ((fun i : Int => if i < 0 then max 0 (i + (its.size : Int)) else i) ((none : Option Int).getD (2 ^ 63 - 1))) = 2 ^ 63 - 1 := by simp
  rw [q1, q2]
  refine ⟨plainId_quiet plain_index_loop _, codeAny_builtin entry_index_loop ?_⟩
  rw [Around.under_plainId plain_index_loop _]
  exact at_loop l its n dd sl x e (2 ^ 63 - 1) j hj ht hit _ 0 rfl (Nat.zero_le _) (fun k _ h2 => no k h2) A R _ ⟨hl, he, hR⟩
theorem rem_loop (l : Addr) (its : Array Value) (n : Nat) (x : Value) (e : Nat → Bool) (j : Nat) (hj : j < its.size) (hit : e j = true) (hz : its.size ≤ sizeLine) : ∀ (m i : Nat), j - i = m → i ≤ j → (∀ k, i ≤ k → k < j → e k = false) →
    MeetsIn P w (Builtin.«list.remove.loop» ⟨[.ref l, x, rawInt i], []⟩) fun A R s => s.heap.get? l = some (LObj its n none #[]) ∧ Ans P w A s its x e ∧ R (.ok (.ret .none)) { s with heap := s.heap.update l (Obj.mapSeq fun ys => ys.eraseIdxIfInBounds j) } := by
  intro m
  induction m with
  | zero =>
    intro i im ij no A R ⟨hp0, g0, dr0, tk0, os0⟩ ⟨hl, he, hR⟩
    obtain rfl : i = j := by omega
    wp_walk using wpAny_loadPart' hl
    have yes : its[((i : Nat) : Int).toNat]? = some its[i] := by simp [hj]
    rw [yes]
    refine wpAny_bind (he i hj _ _ ?_)
    rw [hit]
    have fit : (its.eraseIdxIfInBounds i).size ≤ sizeLine + 1 := Nat.le_trans (size_erased its _) (Nat.le_succ_of_le hz)
    wp_walk using (wpAny_updateSeq hl rfl (hz := hz) (_hz' := fit)), wpAny_loadPart' hl
    simpa using hR
  | succ m ih =>
    intro i im ij no A R ⟨hp0, g0, dr0, tk0, os0⟩ ⟨hl, he, hR⟩
    have lt : i < its.size := by omega
    wp_walk using wpAny_loadPart' hl
    have yes : its[((i : Nat) : Int).toNat]? = some its[i] := by simp [lt]
    have up : ((i : Int) + 1) = ((i + 1 : Nat) : Int) := by push_cast; rfl
    rw [yes]
    refine wpAny_bind (he i lt _ _ ?_)
    rw [no i (Nat.le_refl _) (by omega)]
    wp_walk
    rw [up]
    refine ⟨plainId_quiet plain_remove_loop _, codeAny_builtin entry_remove_loop ?_⟩
    rw [Around.under_plainId plain_remove_loop _]
    exact ih (i + 1) (by omega) (by omega) (fun k h1 h2 => no k (by omega) h2) A R _ ⟨hl, he, hR⟩
theorem rem_run (l : Addr) (its : Array Value) (n : Nat) (x : Value) (e : Nat → Bool) (j : Nat) (hj : j < its.size) (hit : e j = true) (no : ∀ k, k < j → e k = false) (hz : its.size ≤ sizeLine) :
    MeetsIn P w (Builtin.«list.remove» ⟨[.ref l, x], []⟩) fun A R s => s.heap.get? l = some (LObj its n none #[]) ∧ Ans P w A s its x e ∧ R (.ok (.ret .none)) { s with heap := s.heap.update l (Obj.mapSeq fun ys => ys.eraseIdxIfInBounds j) } := by
  intro A R ⟨hp0, g0, dr0, tk0, os0⟩ ⟨hl, he, hR⟩
  wp_walk using wpAny_loadPart' hl
  refine ⟨plainId_quiet plain_remove_loop _, codeAny_builtin entry_remove_loop ?_⟩
  rw [Around.under_plainId plain_remove_loop _]
  exact rem_loop l its n x e j hj hit hz _ 0 rfl (Nat.zero_le _) (fun k _ h2 => no k h2) A R _ ⟨hl, he, hR⟩
end
end D.EqL

namespace D
open PySem PySem.Spec PyProof.Rows L2
/-! ### x == y, nested, dicts too -/
noncomputable def deqs (f : Dat → Dat → Option Bool) : List Dat → List Dat → Option (List Bool)
  | d :: l, d' :: l' => (f d d').bind fun b => (deqs f l l').map (b :: ·)
  | _, _ => some []
noncomputable def deqk (f : Dat → Dat → Option Bool) (l' : List (Key × Dat)) : List (Key × Dat) → Option Bool
  | [] => some true
  | (k, d) :: l => match valD l' k with
    | none => some false
    | some d' => (f d d').bind fun b => (deqk f l' l).map (b && ·)
noncomputable def deqW (f : Dat → Dat → Option Bool) (x y : Dat) : Option Bool := match x, y with
  | .tup l, .tup l' => (deqs f l l').map fun bs => bs.all id && (l.length == l'.length)
  | .lst l, .lst l' => if l.length = l'.length then (deqs f l l').map fun bs => bs.all id else some false
  | .dic l, .dic l' => (deqk f l' l).map fun b => (l.length == l'.length) && b
  | x, y => dEqS x y
noncomputable def deq : Nat → Dat → Dat → Option Bool
  | 0 => dEqS
  | n + 1 => deqW (deq n)
theorem deqs_get {f : Dat → Dat → Option Bool} : ∀ {l l' : List Dat} {bs : List Bool}, deqs f l l' = some bs → bs.length = min l.length l'.length ∧ ∀ (j : Nat) d d', l[j]? = some d → l'[j]? = some d' → ∃ b, bs[j]? = some b ∧ f d d' = some b
  | [], l', bs, h => by
    have : some [] = some bs := by cases l' <;> exact h
    cases this
    exact ⟨by simp, fun j d d' z => by simp at z⟩
  | d :: l, [], bs, h => by cases h; exact ⟨by simp, fun j _ _ _ z => by simp at z⟩
  | d :: l, d' :: l', bs, h => by
    obtain ⟨b, h1, h2⟩ := Option.bind_eq_some_iff.mp h
    obtain ⟨cs, h3, rfl⟩ := Option.map_eq_some_iff.mp h2
    obtain ⟨g1, g2⟩ := deqs_get h3
    refine ⟨by simp [g1, Nat.succ_min_succ], fun j e e' z z' => ?_⟩
    cases j with
    | zero => simp at z z'; subst z; subst z'; exact ⟨b, rfl, h1⟩
    | succ j => simpa using g2 j e e' (by simpa using z) (by simpa using z')
theorem eqS_at {Hf : Hp} {K : PySem.W.Frag} {A : Around} {s : Shared} {d d' : Dat} {x y : V} {v u : Value} {b : Bool} (rx : Rep K Hf d x) (ry : Rep K Hf d' y) (rv : RelV x v) (ru : RelV y u) (h : dEqS d d' = some b) : SeqAt.EqAt A s v u b := by
  unfold dEqS at h
  split at h
  · cases h; cases rx; cases ry; cases rv; cases ru; exact SeqAt.EqAt.same _
  · cases h; cases rx; cases ry; cases rv; obtain ⟨t, rfl⟩ := ru; exact SeqAt.EqAt.none_int _ _
  · cases h; cases rx; cases ry; cases ru; obtain ⟨t, rfl⟩ := rv; exact SeqAt.EqAt.int_none _ _
  · cases h; cases rx; cases ry; cases rv; cases ru; exact SeqAt.EqAt.none_bool _
  · cases h; cases rx; cases ry; cases rv; cases ru; exact SeqAt.EqAt.bool_none _
  · cases h; cases rx; cases ry; cases rv; obtain ⟨t, rfl⟩ := ru; exact SeqAt.EqAt.none_str _ _
  · cases h; cases rx; cases ry; cases ru; obtain ⟨t, rfl⟩ := rv; exact SeqAt.EqAt.str_none _ _
  · cases h; cases rx; cases ry; obtain ⟨t, rfl⟩ := rv; obtain ⟨t2, rfl⟩ := ru; exact SeqAt.EqAt.int_int _ _ _ _
  · rename_i i j
    cases h; cases rx; cases ry; cases rv; cases ru
    have e := SeqAt.EqAt.bool_bool (A := A) (s := s) i j
    rw [show (i == j) = decide (i = j) by cases i <;> cases j <;> rfl] at e
    exact e
  · rename_i i j
    cases h; cases rx; cases ry; obtain ⟨t, rfl⟩ := rv; obtain ⟨t2, rfl⟩ := ru
    have e := SeqAt.EqAt.str_str (A := A) (s := s) i t j t2
    rw [show (i == j) = decide (i = j) by
      by_cases q : i = j
      · rw [decide_eq_true q]; exact beq_iff_eq.mpr q
      · rw [decide_eq_false q]; exact beq_eq_false_iff_ne.mpr q] at e
    exact e
  · cases h; cases rx; cases ry; obtain ⟨t, rfl⟩ := rv; obtain ⟨t2, rfl⟩ := ru; exact SeqAt.EqAt.int_str _ _ _ _
  · cases h; cases rx; cases ry; obtain ⟨t, rfl⟩ := rv; obtain ⟨t2, rfl⟩ := ru; exact SeqAt.EqAt.str_int _ _ _ _
  · cases h; cases rx; cases ry; cases rv; obtain ⟨t2, rfl⟩ := ru; exact SeqAt.EqAt.bool_str _ _ _
  · cases h; cases rx; cases ry; cases ru; obtain ⟨t2, rfl⟩ := rv; exact SeqAt.EqAt.str_bool _ _ _
  · cases h
theorem eqS_same {Hf : Hp} {K : PySem.W.Frag} {d d' : Dat} {x : V} {b : Bool} (rx : Rep K Hf d x) (ry : Rep K Hf d' x) (h : dEqS d d' = some b) : b = true := by
  have q := (dEqS_ok (H := Hf) (.inl rx) (.inl ry) h).2
  rw [← q]; exact decide_eq_true rfl
section
variable {X : Cx} {pins : List (Addr × Obj)} {σ : L2.St} {H Hf : Hp} {s : Shared}
theorem vals_inj : ∀ {xs ys : List V} {us : List Value}, Vals xs us → Vals ys us → xs = ys
  | _, _, _, .nil, .nil => rfl
  | _, _, _, .cons h r, .cons h' r' => by rw [RelV.inj h h', vals_inj r r']
theorem tup_inj (I : Inv X pins σ H s) (e : Same Hf H) {a : Addr} {xs ys : List V} (h : TupAt X.K Hf a xs) (h' : TupAt X.K Hf a ys) : xs = ys := by
  obtain ⟨its, rv, ⟨o, ho, hc, n, hd⟩, _⟩ := I.tuple (h.mono e).sq
  obtain ⟨its', rv', ⟨o', ho', hc', n', hd'⟩, _⟩ := I.tuple (h'.mono e).sq
  rw [ho] at ho'; cases ho'
  rw [hd] at hd'
  have q : its.toArray = its'.toArray := by injection hd'
  have q2 : its = its' := by simpa using q
  subst q2
  exact vals_inj rv rv'
theorem all_get {bs : List Bool} (h : ∀ (j : Nat) b, bs[j]? = some b → b = true) : bs.all id = true :=
  List.all_eq_true.mpr fun b hb => by
    obtain ⟨j, hj⟩ := List.getElem?_of_mem hb
    exact h j b hj
theorem deqk_same {f : Dat → Dat → Option Bool} {l' : List (Key × Dat)} {xs : List (Key × V)} (r' : RepK X.K Hf l' xs) (hf : ∀ d d' x b, Rep X.K Hf d x → Rep X.K Hf d' x → f d d' = some b → b = true) (nd : (xs.map (·.1)).Nodup) : ∀ {l : List (Key × Dat)} {ys : List (Key × V)} {b : Bool}, RepK X.K Hf l ys → (∀ p ∈ ys, p ∈ xs) → deqk f l' l = some b → b = true
  | _, _, b, .nil, _, h => by cases h; rfl
  | _, _, b, @RepK.cons _ _ k d x l ys hd r, sub, h => by
    unfold deqk at h
    have hx : valV xs k = some x := by
      have hm := sub (k, x) List.mem_cons_self
      clear sub h r r' hf
      induction xs with
      | nil => cases hm
      | cons p ps ih =>
        rw [List.map_cons, List.nodup_cons] at nd
        rcases List.mem_cons.mp hm with e | e
        · rw [← e]; exact valV_pos rfl
        · have ne : p.1 ≠ k := fun z => nd.1 (by rw [z]; exact List.mem_map.mpr ⟨_, e, rfl⟩)
          rw [valV_neg ne]; exact ih nd.2 e
    cases hv : valD l' k with
    | none =>
      have := (r'.val k).2 hv
      rw [hx] at this; cases this
    | some d' =>
      rw [hv] at h
      obtain ⟨b1, h1, h2⟩ := Option.bind_eq_some_iff.mp h
      obtain ⟨b2, h3, rfl⟩ := Option.map_eq_some_iff.mp h2
      obtain ⟨x', e1, e2⟩ := (r'.val k).1 d' hv
      rw [hx] at e1; cases e1
      rw [hf d d' x b1 hd e2 h1, deqk_same r' hf nd r (fun p hp => sub p (List.mem_cons_of_mem _ hp)) h3]; rfl
theorem deq_same (I : Inv X pins σ H s) (e : Same Hf H) : ∀ (n : Nat) (d d' : Dat) (x : V) (b : Bool), Rep X.K Hf d x → Rep X.K Hf d' x → deq n d d' = some b → b = true
  | 0, d, d', x, b, rx, ry, h => eqS_same rx ry h
  | n + 1, d, d', x, b, rx, ry, h => by
    have ih := deq_same I e n
    have seq : ∀ {l l' : List Dat} {xs : List V} {bs : List Bool}, Reps X.K Hf l xs → Reps X.K Hf l' xs → deqs (deq n) l l' = some bs → bs.all id = true := fun {l l' xs bs} r r' hb => by
      obtain ⟨g1, g2⟩ := deqs_get hb
      refine all_get fun j b1 hj => ?_
      have hl : j < bs.length := (List.getElem?_eq_some_iff.mp hj).1
      have l1 : j < l.length := by omega
      have l2 : j < l'.length := by omega
      obtain ⟨x1, q1, q2⟩ := r.get (List.getElem?_eq_getElem l1)
      obtain ⟨x2, q3, q4⟩ := r'.get (List.getElem?_eq_getElem l2)
      rw [q1] at q3; cases q3
      obtain ⟨b2, q5, q6⟩ := g2 j _ _ (List.getElem?_eq_getElem l1) (List.getElem?_eq_getElem l2)
      rw [hj] at q5; cases q5
      exact ih _ _ _ _ q2 q4 q6
    have h : deqW (deq n) d d' = some b := h
    unfold deqW at h
    split at h
    · rename_i l l'
      obtain ⟨bs, h1, rfl⟩ := Option.map_eq_some_iff.mp h
      cases rx with | tup t r => cases ry with | tup t' r' =>
        have q := tup_inj I e t t'
        subst q
        rw [seq r r' h1, r.length, r'.length]; simp
    · rename_i l l'
      cases rx with | lst t r => cases ry with | lst t' r' =>
        rw [t] at t'; cases t'
        rw [if_pos (by rw [r.length, r'.length])] at h
        obtain ⟨bs, h1, rfl⟩ := Option.map_eq_some_iff.mp h
        exact seq r r' h1
    · rename_i l l'
      obtain ⟨b1, h1, rfl⟩ := Option.map_eq_some_iff.mp h
      cases rx with | dic t r => cases ry with | dic t' r' =>
        obtain ⟨o, t⟩ := t
        obtain ⟨o', t'⟩ := t'
        rw [t] at t'; cases t'
        obtain ⟨_, _, vs, kv, o2, es, ep, _, _, _, _, _, nd⟩ := dk_rd I.hok (.inr ⟨o, e _ _ t⟩)
        have nd' : ∀ {xs : List (Key × V)} {vs : List (Key × Value)}, KV xs vs → (vs.map (·.1)).Nodup → (xs.map (·.1)).Nodup := fun {xs vs} kv nd => by
          have q : xs.map (·.1) = vs.map (·.1) := by
            unfold KV at kv
            induction kv with
            | nil => rfl
            | cons h _ ih => rw [List.map_cons, List.map_cons, h.1, ih (List.nodup_cons.mp nd).2]
          rw [q]; exact nd
        have len : ∀ {l : List (Key × Dat)} {xs : List (Key × V)}, RepK X.K Hf l xs → l.length = xs.length := fun {l xs} r => by
          exact RepK.length r
        rw [deqk_same r' ih (nd' kv nd) r (fun _ h => h) h1, len r, len r']; simp
    · exact eqS_same rx ry h
theorem deqk_hits {A : Around} {f : Dat → Dat → Option Bool} {l' : List (Key × Dat)} {xs' : List (Key × V)} {kb : List (Key × Value)} (r' : RepK X.K Hf l' xs') (rb : KV xs' kb)
    (hf : ∀ d d' x y v u b, Rep X.K Hf d x → Rep X.K Hf d' y → RelV x v → RelV y u → f d d' = some b → SeqAt.EqIn X.prog X.w A s v u b) : ∀ {l : List (Key × Dat)} {xs : List (Key × V)} {ka : List (Key × Value)} {b : Bool}, RepK X.K Hf l xs → KV xs ka → deqk f l' l = some b → PySem.W.KeqHitsIn X.prog X.w A s kb ka b
  | _, _, _, b, .nil, ra, h => by cases ra; cases h; exact .nil
  | _, _, _, b, @RepK.cons _ _ k d x l xs hd r, ra, h => by
    cases ra with
    | @cons _ q _ qs hq ra =>
      obtain ⟨k', v⟩ := q
      obtain ⟨hq1, hq2⟩ := hq
      have e1 : k = k' := hq1
      subst e1
      unfold deqk at h
      cases hv : valD l' k with
      | none =>
        rw [hv] at h; cases h
        have e2 := (r'.val k).2 hv
        have e3 := rb.val k
        rw [e2] at e3
        exact .miss e3.none_of
      | some d' =>
        rw [hv] at h
        obtain ⟨b1, h1, h2⟩ := Option.bind_eq_some_iff.mp h
        obtain ⟨b2, h3, rfl⟩ := Option.map_eq_some_iff.mp h2
        obtain ⟨y, e2, e3⟩ := (r'.val k).1 d' hv
        have e4 := rb.val k
        rw [e2] at e4
        obtain ⟨u, e5, e6⟩ := e4.some_of
        exact .hit e5 (hf d d' x y v u b1 hd e3 hq2 e6 h1) (deqk_hits r' rb hf r ra h3)
theorem KV.len {xs : List (Key × V)} {vs : List (Key × Value)} (r : KV xs vs) : xs.length = vs.length := Paired.length r
theorem deq_run (I : Inv X pins σ H s) (e : Same Hf H) : ∀ (n : Nat) (A : Around), A.units + n < cLine → ∀ (d d' : Dat) (x y : V) (v u : Value) (b : Bool), Rep X.K Hf d x → Rep X.K Hf d' y → RelV x v → RelV y u → deq n d d' = some b → SeqAt.EqIn X.prog X.w A s v u b
  | 0, A, hu, d, d', x, y, v, u, b, rx, ry, rv, ru, h => (eqS_at rx ry rv ru h).inModel _ _
  | n + 1, A, hu, d, d', x, y, v, u, b, rx, ry, rv, ru, h => by
    have ih := deq_run I e n A.in1 (by show A.units + 1 + n < cLine; omega)
    have item : ∀ {l l' : List Dat} {xs ys : List V} {us ws : List Value} {bs : List Bool}, Reps X.K Hf l xs → Reps X.K Hf l' ys → Vals xs us → Vals ys ws → deqs (deq n) l l' = some bs → ∀ j (h1 : j < us.toArray.size) (h2 : j < ws.toArray.size), SeqAt.EqIn X.prog X.w A.in1 s us.toArray[j] ws.toArray[j] (bs.getD j true) := fun {l l' xs ys us ws bs} r r' w w' hb j h1 h2 => by
      obtain ⟨g1, g2⟩ := deqs_get hb
      rw [List.size_toArray] at h1 h2
      have l1 : j < l.length := by rw [r.length, w.length]; exact h1
      have l2 : j < l'.length := by rw [r'.length, w'.length]; exact h2
      obtain ⟨x1, q1, q2⟩ := r.get (List.getElem?_eq_getElem l1)
      obtain ⟨x2, q3, q4⟩ := r'.get (List.getElem?_eq_getElem l2)
      obtain ⟨b2, q5, q6⟩ := g2 j _ _ (List.getElem?_eq_getElem l1) (List.getElem?_eq_getElem l2)
      obtain ⟨v1, q7, q8⟩ := w.get q1
      obtain ⟨v2, q9, q10⟩ := w'.get q3
      have e1 : us.toArray[j] = v1 := by
        rw [List.getElem?_eq_getElem h1] at q7
        simpa using Option.some.inj q7
      have e2 : ws.toArray[j] = v2 := by
        rw [List.getElem?_eq_getElem h2] at q9
        simpa using Option.some.inj q9
      rw [e1, e2, List.getD_eq_getElem?_getD, q5]
      exact ih _ _ _ _ _ _ _ q2 q4 q8 q10 q6
    have allE : ∀ {bs : List Bool} {m : Nat}, bs.length = m → ((List.range m).all fun j => bs.getD j true) = bs.all id := fun {bs m} hm => by
      subst hm
      rw [Bool.eq_iff_iff, List.all_eq_true, List.all_eq_true]
      constructor
      · intro q b hb
        obtain ⟨j, hj⟩ := List.getElem?_of_mem hb
        have := q j (List.mem_range.mpr (List.getElem?_eq_some_iff.mp hj).1)
        rw [List.getD_eq_getElem?_getD, hj] at this; exact this
      · intro q j hj
        have hj := List.mem_range.mp hj
        rw [List.getD_eq_getElem?_getD, List.getElem?_eq_getElem hj]
        exact q _ (List.getElem_mem hj)
    have h' := h
    have h : deqW (deq n) d d' = some b := h
    unfold deqW at h
    split at h
    · rename_i l l'
      obtain ⟨bs, h1, rfl⟩ := Option.map_eq_some_iff.mp h
      cases rx with | @tup _ a xs t r => cases ry with | @tup _ a' ys t' r' =>
        obtain rfl : v = Value.ref a := rv
        obtain rfl : u = Value.ref a' := ru
        by_cases ea : a = a'
        · subst ea
          rw [deq_same I e (n + 1) _ _ (.ref a) _ (.tup t r) (.tup t' r') h']
          exact (SeqAt.EqAt.same _).inModel _ _
        · obtain ⟨us, w, it, _⟩ := I.tuple (t.mono e).sq
          obtain ⟨ws, w', it', _⟩ := I.tuple (t'.mono e).sq
          refine SeqAt.EqIn.of_refs ea fun E Q q => SeqAt.rcIn_tuples (e := fun j => bs.getD j true) it it' (by omega) (item r r' w w' h1) ?_
          rw [List.size_toArray, List.size_toArray, ← w.length, ← w'.length, ← r.length, ← r'.length, allE (deqs_get h1).1]
          exact q
    · rename_i l l'
      cases rx with | @lst _ a xs t r => cases ry with | @lst _ a' ys t' r' =>
        obtain rfl : v = Value.ref a := rv
        obtain rfl : u = Value.ref a' := ru
        by_cases ea : a = a'
        · subst ea
          rw [deq_same I e (n + 1) _ _ (.ref a) _ (.lst t r) (.lst t' r') h']
          exact (SeqAt.EqAt.same _).inModel _ _
        · obtain ⟨us, w, it, _⟩ := I.list (.of (e _ _ t))
          obtain ⟨ws, w', it', _⟩ := I.list (.of (e _ _ t'))
          split at h
          · rename_i hl
            obtain ⟨bs, h1, rfl⟩ := Option.map_eq_some_iff.mp h
            have hz : us.toArray.size = ws.toArray.size := by rw [List.size_toArray, List.size_toArray, ← w.length, ← w'.length, ← r.length, ← r'.length]; exact hl
            refine SeqAt.EqIn.of_refs ea fun E Q q => SeqAt.rcIn_lists (e := fun j => bs.getD j true) it.isList it'.isList hz (by omega) (item r r' w w' h1) ?_
            rw [List.size_toArray, ← w.length, ← r.length, allE (by rw [(deqs_get h1).1, ← hl]; simp)]
            exact q
          · rename_i hl
            cases h
            have hz : (us.toArray.size != ws.toArray.size) = true := by
              rw [List.size_toArray, List.size_toArray, ← w.length, ← w'.length, ← r.length, ← r'.length]
              exact bne_iff_ne.mpr hl
            exact (SeqAt.EqAt.of_refs ea (SeqAt.RcAt.lists_lengths it.isList it'.isList hz (by omega))).inModel _ _
    · rename_i l l'
      obtain ⟨b1, h1, rfl⟩ := Option.map_eq_some_iff.mp h
      cases rx with | @dic _ a xs t r => cases ry with | @dic _ a' ys t' r' =>
        obtain rfl : v = Value.ref a := rv
        obtain rfl : u = Value.ref a' := ru
        by_cases ea : a = a'
        · subst ea
          rw [deq_same I e (n + 1) _ _ (.ref a) _ (.dic t r) (.dic t' r') h']
          exact (SeqAt.EqAt.same _).inModel _ _
        · obtain ⟨o, t⟩ := t
          obtain ⟨o', t'⟩ := t'
          obtain ⟨_, za, va, ka, da⟩ := dk_rd I.hok (.inr ⟨o, e _ _ t⟩)
          obtain ⟨_, zb, vb, kb, db⟩ := dk_rd I.hok (.inr ⟨o', e _ _ t'⟩)
          refine SeqAt.EqIn.of_refs ea fun E Q q => PySem.W.keq_eqIn za zb da db (by omega) (fun _ => deqk_hits r' kb (fun d d' x y v u b => ih d d' x y v u b) r ka h1) ?_
          rw [← KV.len ka, ← KV.len kb, ← r.length, ← r'.length]
          exact q
    · exact (eqS_at rx ry rv ru h).inModel _ _
end
end D

namespace D
open PySem PySem.Spec PyProof.Rows L2
/-! x in l, l.count(x), l.index(x), l.remove(x); x == y: by deep equality -/
noncomputable def deqX (f : Dat → Dat → Option Bool) (x : Dat) : List Dat → Option (List Bool)
  | [] => some []
  | d :: l => (f d x).bind fun b => (deqX f x l).map (b :: ·)
theorem deqX_get {f : Dat → Dat → Option Bool} {x : Dat} : ∀ {l : List Dat} {bs : List Bool}, deqX f x l = some bs → bs.length = l.length ∧ ∀ (j : Nat) d, l[j]? = some d → ∃ b, bs[j]? = some b ∧ f d x = some b
  | [], bs, h => by cases h; exact ⟨rfl, fun j d z => by simp at z⟩
  | d :: l, bs, h => by
    obtain ⟨b, h1, h2⟩ := Option.bind_eq_some_iff.mp h
    obtain ⟨cs, h3, rfl⟩ := Option.map_eq_some_iff.mp h2
    obtain ⟨g1, g2⟩ := deqX_get h3
    refine ⟨by simp [g1], fun j e z => ?_⟩
    cases j with
    | zero => simp at z; subst z; exact ⟨b, rfl, h1⟩
    | succ j => simpa using g2 j e (by simpa using z)
theorem any_range : ∀ (bs : List Bool), ((List.range bs.length).any fun j => bs.getD j false) = bs.any id := fun bs => by
  rw [Bool.eq_iff_iff, List.any_eq_true, List.any_eq_true]
  constructor
  · rintro ⟨j, hj, h⟩
    have hj := List.mem_range.mp hj
    rw [List.getD_eq_getElem?_getD, List.getElem?_eq_getElem hj] at h
    exact ⟨_, List.getElem_mem hj, h⟩
  · rintro ⟨b, hb, h⟩
    obtain ⟨j, hj⟩ := List.getElem?_of_mem hb
    refine ⟨j, List.mem_range.mpr (List.getElem?_eq_some_iff.mp hj).1, ?_⟩
    rw [List.getD_eq_getElem?_getD, hj]; exact h
theorem count_range : ∀ (bs : List Bool), (List.range bs.length).countP (fun j => bs.getD j false) = bs.countP id := fun bs => by
  have e : bs = (List.range bs.length).map fun j => bs.getD j false := by
    apply List.ext_getElem?
    intro j
    rw [List.getElem?_map]
    by_cases h : j < bs.length
    · rw [List.getElem?_range h, List.getElem?_eq_getElem h]
      simp [h]
    · rw [List.getElem?_eq_none (by omega), List.getElem?_eq_none (by rw [List.length_range]; omega)]; rfl
  conv => rhs; rw [e]
  rw [List.countP_map]; rfl
section
variable {X : Cx} {pins : List (Addr × Obj)} {σ : L2.St} {H Hf : Hp} {s : Shared}
/-- how the items answer -/
theorem ans_of (I : Inv X pins σ H s) (e : Same Hf H) {n : Nat} {A : Around} (hu : A.units + 1 + n < cLine) {l : List Dat} {xs : List V} {us : List Value} {dx : Dat} {x : V} {u : Value} {bs : List Bool} (r : Reps X.K Hf l xs) (w : Vals xs us) (rx : Rep X.K Hf dx x) (ru : RelV x u) (h : deqX (deq n) dx l = some bs) :
    EqL.Ans X.prog X.w A s us.toArray u (fun j => bs.getD j false) ∧ us.toArray.size = bs.length := by
  obtain ⟨g1, g2⟩ := deqX_get h
  have hz : us.toArray.size = bs.length := by rw [List.size_toArray, ← w.length, ← r.length, g1]
  refine ⟨fun j hj => ?_, hz⟩
  rw [List.size_toArray] at hj
  have l1 : j < l.length := by rw [r.length, w.length]; exact hj
  obtain ⟨x1, q1, q2⟩ := r.get (List.getElem?_eq_getElem l1)
  obtain ⟨b2, q5, q6⟩ := g2 j _ (List.getElem?_eq_getElem l1)
  obtain ⟨v1, q7, q8⟩ := w.get q1
  have e1 : us.toArray[j] = v1 := by
    rw [List.getElem?_eq_getElem hj] at q7
    simpa using Option.some.inj q7
  show SeqAt.EqIn X.prog X.w A.in1 s us.toArray[j] u (bs.getD j false)
  rw [e1, List.getD_eq_getElem?_getD, q5]
  exact deq_run I e n A.in1 (by show A.units + 1 + n < cLine; omega) _ _ _ _ _ _ _ q2 rx q8 ru q6
end
noncomputable def rInQ (K : PySem.W.Frag) (neg : Bool) : R2 := fun x y H Q => ∃ (Hf : Hp) (dx : Dat) (l : List Dat) (a : Addr) (xs : List V) (bs : List Bool), Same Hf H ∧ Rep K Hf dx x ∧ y = .ref a ∧ SqL K H a xs ∧ Reps K Hf l xs ∧ deqX (deq 8) dx l = some bs ∧ Q (.bl (if neg then !bs.any id else bs.any id)) H
theorem op_inQ {X : Cx} (hu : X.A.units + 64 < cLine) : OpR X (compareOp .In) (rInQ X.K false) := by
  intro pins s σ H x y v u Q I rx ry h
  obtain ⟨Hf, dx, l, a, xs, bs, e, h1, rfl, h2, h3, h4, q⟩ := h
  obtain rfl : u = Value.ref a := ry
  obtain ⟨its, rv, ⟨⟨cls, dd, data, sl⟩, n, ho, hc, hdn, hd⟩, hlen⟩ := I.list h2
  simp only at hc hd
  subst hc hd
  obtain ⟨an, hz⟩ := ans_of I e (n := 8) (A := X.A) (by omega) h3 rv h1 rx h4
  have t : s.TypeIs (.ref a) "list" := ⟨_, ho, rfl⟩
  show wpAny _ X.A (do return Value.bool (← contains (.ref a) v)) _ _ s
  refine wpAny_bind (wpAny_contains_slot t PySem.F.slot_list_contains (wpAny_mono (PySem.call_meetsIn (Q := fun z s' => z = .bool (bs.any id) ∧ s' = s) PySem.F.slot_list_contains t PySem.F.entry_list_contains (PySem.F.args_list_contains_2 _ _) (EqL.has_run a its.toArray n dd sl v fun j => bs.getD j false) ⟨ho, an, ?_⟩) (fun z s' hz' => ?_) fun _ _ z => z))
  · rw [hz, any_range]; exact ⟨rfl, rfl⟩
  · obtain ⟨rfl, rfl⟩ := hz'
    exact wpAny_truthy_bool (wpAny_pure ⟨.bl _, H, I, rfl, q⟩)
theorem op_notInQ {X : Cx} (hu : X.A.units + 64 < cLine) : OpR X (compareOp .NotIn) (rInQ X.K true) := by
  intro pins s σ H x y v u Q I rx ry h
  obtain ⟨Hf, dx, l, a, xs, bs, e, h1, rfl, h2, h3, h4, q⟩ := h
  obtain rfl : u = Value.ref a := ry
  obtain ⟨its, rv, ⟨⟨cls, dd, data, sl⟩, n, ho, hc, hdn, hd⟩, hlen⟩ := I.list h2
  simp only at hc hd
  subst hc hd
  obtain ⟨an, hz⟩ := ans_of I e (n := 8) (A := X.A) (by omega) h3 rv h1 rx h4
  have t : s.TypeIs (.ref a) "list" := ⟨_, ho, rfl⟩
  show wpAny _ X.A (do return Value.bool (!(← contains (.ref a) v))) _ _ s
  refine wpAny_bind (wpAny_contains_slot t PySem.F.slot_list_contains (wpAny_mono (PySem.call_meetsIn (Q := fun z s' => z = .bool (bs.any id) ∧ s' = s) PySem.F.slot_list_contains t PySem.F.entry_list_contains (PySem.F.args_list_contains_2 _ _) (EqL.has_run a its.toArray n dd sl v fun j => bs.getD j false) ⟨ho, an, ?_⟩) (fun z s' hz' => ?_) fun _ _ z => z))
  · rw [hz, any_range]; exact ⟨rfl, rfl⟩
  · obtain ⟨rfl, rfl⟩ := hz'
    exact wpAny_truthy_bool (wpAny_pure ⟨.bl _, H, I, rfl, q⟩)
noncomputable def dInQ (x y : Dat) : Option Bool := match y with
  | .lst l => (deqX (deq 8) x l).map fun bs => bs.any id
  | _ => none
noncomputable def dNotInQ (x y : Dat) : Option Bool := (dInQ x y).map (!·)
end D
namespace D
open PySem PySem.Spec PyProof.Rows L2
noncomputable def OpBE (K : PySem.W.Frag) (r : R2) (g : Dat → Dat → Option Bool) : Prop := ∀ (Hf H : Hp) (x y : V) (dx dy : Dat) (b : Bool), Same Hf H → Rep K Hf dx x → RepP K Hf H dy y → g dx dy = some b → ∀ Q : VK, Q (.bl b) H → r x y H Q
theorem dInQ_ok {K : PySem.W.Frag} : OpBE K (rInQ K false) dInQ := by
  intro Hf H x y dx dy b e rx ry h Q q
  unfold dInQ at h
  split at h
  · rename_i l
    obtain ⟨bs, h1, rfl⟩ := Option.map_eq_some_iff.mp h
    obtain ⟨a, xs, rfl, h2, h3⟩ := ry.lst e
    exact ⟨Hf, dx, l, a, xs, bs, e, rx, rfl, SqL.of h2, h3, h1, q⟩
  · cases h
theorem dNotInQ_ok {K : PySem.W.Frag} : OpBE K (rInQ K true) dNotInQ := by
  intro Hf H x y dx dy b e rx ry h Q q
  unfold dNotInQ at h
  obtain ⟨b0, h0, rfl⟩ := Option.map_eq_some_iff.mp h
  unfold dInQ at h0
  split at h0
  · rename_i l
    obtain ⟨bs, h1, rfl⟩ := Option.map_eq_some_iff.mp h0
    obtain ⟨a, xs, rfl, h2, h3⟩ := ry.lst e
    exact ⟨Hf, dx, l, a, xs, bs, e, rx, rfl, SqL.of h2, h3, h1, q⟩
  · cases h0
noncomputable def rCntQ (K : PySem.W.Frag) : V → List V → Hp → VK → Prop := fun x xs H Q => ∃ (Hf : Hp) (dx : Dat) (y : V) (l : List Dat) (a : Addr) (ys : List V) (bs : List Bool), Same Hf H ∧ xs = [y] ∧ Rep K Hf dx y ∧ x = .ref a ∧ SqL K H a ys ∧ Reps K Hf l ys ∧ deqX (deq 8) dx l = some bs ∧ Q (.int (bs.countP id : Nat)) H
theorem mt_cntQ {X : Cx} (hu : X.A.units + 64 < cLine) : MtR X "list.count" (rCntQ X.K) := by
  intro pins s σ H x xs v us Q I rx rxs h
  obtain ⟨Hf, dx, y, l, a, ys, bs, e, rfl, h1, rfl, h2, h3, h4, q⟩ := h
  cases rx
  obtain ⟨u, rfl, ru⟩ := rxs.one
  obtain ⟨its, rv, ⟨⟨cls, dd, data, sl⟩, n, ho, hc, hdn, hd⟩, hlen⟩ := I.list h2
  simp only at hc hd
  subst hc hd
  obtain ⟨an, hz⟩ := ans_of I e (n := 8) (A := X.A) (by omega) h3 rv h1 ru h4
  refine PySem.call_meetsIn PySem.F.slot_list_count ⟨_, ho, rfl⟩ PySem.F.entry_list_count (PySem.F.args_list_count_2 _ _) (EqL.num_run a its.toArray n dd sl u fun j => bs.getD j false) ⟨ho, an, ?_⟩
  refine ⟨.int (bs.countP id : Nat), H, I.tok _, ⟨s.toks, ?_⟩, q⟩
  rw [hz, count_range]
/-- the first place that is true -/
noncomputable def first : List Bool → Option Nat
  | [] => none
  | true :: _ => some 0
  | false :: l => (first l).map (· + 1)
theorem first_ok : ∀ {l : List Bool} {j : Nat}, first l = some j → l[j]? = some true ∧ ∀ k, k < j → l[k]? = some false
  | [], j, h => by cases h
  | true :: l, j, h => by cases h; exact ⟨rfl, fun k z => by omega⟩
  | false :: l, j, h => by
    obtain ⟨i, h1, rfl⟩ := Option.map_eq_some_iff.mp h
    obtain ⟨g1, g2⟩ := first_ok h1
    refine ⟨by simpa using g1, fun k z => ?_⟩
    cases k with
    | zero => rfl
    | succ k => simpa using g2 k (by omega)
noncomputable def rIdxQ (K : PySem.W.Frag) : V → List V → Hp → VK → Prop := fun x xs H Q => ∃ (Hf : Hp) (dx : Dat) (y : V) (l : List Dat) (a : Addr) (ys : List V) (bs : List Bool) (j : Nat), Same Hf H ∧ xs = [y] ∧ Rep K Hf dx y ∧ x = .ref a ∧ SqL K H a ys ∧ Reps K Hf l ys ∧ deqX (deq 8) dx l = some bs ∧ first bs = some j ∧ Q (.int j) H
theorem mt_idxQ {X : Cx} (hu : X.A.units + 64 < cLine) : MtR X "list.index" (rIdxQ X.K) := by
  intro pins s σ H x xs v us Q I rx rxs h
  obtain ⟨Hf, dx, y, l, a, ys, bs, j, e, rfl, h1, rfl, h2, h3, h4, h5, q⟩ := h
  cases rx
  obtain ⟨u, rfl, ru⟩ := rxs.one
  obtain ⟨its, rv, ⟨⟨cls, dd, data, sl⟩, n, ho, hc, hdn, hd⟩, hlen⟩ := I.list h2
  simp only at hc hd
  subst hc hd
  obtain ⟨an, hz⟩ := ans_of I e (n := 8) (A := X.A) (by omega) h3 rv h1 ru h4
  obtain ⟨g1, g2⟩ := first_ok h5
  have jl : j < bs.length := (List.getElem?_eq_some_iff.mp g1).1
  have hl2 : bs.length ≤ sizeLine := by rw [(deqX_get h4).1, h3.length]; exact hlen
  refine PySem.call_meetsIn PySem.F.slot_list_index ⟨_, ho, rfl⟩ PySem.F.entry_list_index (PySem.F.args_list_index_2 _ _) (EqL.at_run a its.toArray n dd sl u (fun j => bs.getD j false) j (by rw [hz]; exact jl) ?_ (by rw [List.getD_eq_getElem?_getD, g1]; rfl) (fun k z => by rw [List.getD_eq_getElem?_getD, g2 k z]; rfl)) ⟨ho, an, ?_⟩
  · have : (sizeLine : Int) < 2 ^ 63 - 1 := by decide
    omega
  · exact ⟨.int j, H, I.tok _, ⟨s.toks, rfl⟩, q⟩
noncomputable def rRemQ (K : PySem.W.Frag) : V → List V → Hp → VK → Prop := fun x xs H Q => ∃ (Hf : Hp) (dx : Dat) (y : V) (l : List Dat) (a : Addr) (ys : List V) (bs : List Bool) (j : Nat), Same Hf H ∧ xs = [y] ∧ Rep K Hf dx y ∧ x = .ref a ∧ H a = some (.lst ys) ∧ Reps K Hf l ys ∧ deqX (deq 8) dx l = some bs ∧ first bs = some j ∧ Q .non (upd H a (.lst (ys.eraseIdx j)))
theorem mt_remQ {X : Cx} (hu : X.A.units + 64 < cLine) : MtR X "list.remove" (rRemQ X.K) := by
  intro pins s σ H x xs v us Q I rx rxs h
  obtain ⟨Hf, dx, y, l, a, ys, bs, j, e, rfl, h1, rfl, h2, h3, h4, h5, q⟩ := h
  cases rx
  obtain ⟨u, rfl, ru⟩ := rxs.one
  obtain ⟨hlen, its, n, rv, hl, ho⟩ := I.lstM h2
  obtain ⟨an, hz⟩ := ans_of I e (n := 8) (A := X.A) (by omega) h3 rv h1 ru h4
  obtain ⟨g1, g2⟩ := first_ok h5
  have jl : j < bs.length := (List.getElem?_eq_some_iff.mp g1).1
  refine PySem.call_meetsIn PySem.F.slot_list_remove ⟨_, ho, rfl⟩ PySem.F.entry_list_remove (PySem.F.args_list_remove_2 _ _) (EqL.rem_run a its.toArray n u (fun j => bs.getD j false) j (by rw [hz]; exact jl) (by rw [List.getD_eq_getElem?_getD, g1]; rfl) (fun k z => by rw [List.getD_eq_getElem?_getD, g2 k z]; rfl) (by rw [List.size_toArray]; omega)) ⟨ho, an, ?_⟩
  refine ⟨.non, _, I.lset (its' := its.eraseIdx j) (t' := s.toks) h2 ho ?_ (rv.eraseIdx j) ?_, rfl, q⟩
  · show its.toArray.eraseIdxIfInBounds j = (its.eraseIdx j).toArray
    rw [List.eraseIdxIfInBounds_toArray]
  · have := List.length_eraseIdx_le ys j
    omega
section
variable {X : Cx} {W : WX} {np : Nat} {a b e : Expr} {pos apos pos' : Pos} {ma mb : M Dat}
theorem de_cmpE {op : CmpOp} {r : R2} {g : Dat → Dat → Option Bool} (ho : OpR X (compareOp op) r) (hs : OpBE X.K r g) (ha : DE X W np a ma) (hb : DP X W np b mb) (hm : behindInMarks op b = false) :
    DE X W np (.Compare a [op] [b] pos) (bnd ma fun x => bnd mb fun y => bnd (lft (g x y)) fun k => ret (.bl k)) := by
  refine PE.wk (pe_cmpR ho ha hb hm) fun σ H Q ⟨Hf, η, R, p⟩ => ?_
  refine ⟨Hf, η, R, p.bnd fun x Hf1 H1 η1 σ1 R1 S1 p1 e1 v rv => ?_⟩
  subst e1
  refine ⟨Hf1, η1, R1, p1.bnd fun y Hf2 H2 η2 σ2 R2 S2 p2 e2 u ru => ?_⟩
  subst e2
  obtain ⟨k, hk, q⟩ := p2.bndL
  exact hs Hf2 H2 v u x y k R2.ex (rv.mono S2.ef) ru hk Q (q.ret R2 rfl _ .bl)
theorem dt_cmpE {op : CmpOp} {r : R2} {g : Dat → Dat → Option Bool} (ho : OpR X (compareOp op) r) (hs : OpBE X.K r g) (ha : DE X W np a ma) (hb : DP X W np b mb) (hm : behindInMarks op b = false) :
    DT X W np (.Compare a [op] [b] pos) (bnd ma fun x => bnd mb fun y => lft (g x y)) := by
  refine PT.wk (pt_cmpR ho ha hb hm) fun σ H Q ⟨Hf, η, R, p⟩ => ?_
  refine ⟨Hf, η, R, p.bnd fun x Hf1 H1 η1 σ1 R1 S1 p1 e1 v rv => ?_⟩
  subst e1
  refine ⟨Hf1, η1, R1, p1.bnd fun y Hf2 H2 η2 σ2 R2 S2 p2 e2 u ru => ?_⟩
  subst e2
  obtain ⟨k, hk, q⟩ := p2.lft R2
  exact hs Hf2 H2 v u x y k R2.ex (rv.mono S2.ef) ru hk _ ⟨k, rfl, q Hf2 H2 (.refl R2.ex) rfl⟩
/-! l.count(e), l.index(e), l a name -/
noncomputable def dCntQ (x y : Dat) : Option Dat := match x with
  | .lst l => (deqX (deq 8) y l).map fun bs => .int (bs.countP id : Nat)
  | _ => none
noncomputable def dIdxQ (x y : Dat) : Option Dat := match x with
  | .lst l => (deqX (deq 8) y l).bind fun bs => (first bs).map fun j => .int (j : Nat)
  | _ => none
noncomputable abbrev qryE (g : Dat → Dat → Option Dat) (i : Nat) (mb : M Dat) : M Dat := bnd (mPeek i) fun x => bnd (lft (isLst x)) fun _ => bnd mb fun y => bnd (mPeek i) fun x => lft (g x y)
theorem de_qry {m : Str} {r : V → List V → Hp → VK → Prop} {g : Dat → Dat → Option Dat} (i : Nat) {x : Str} {px : Pos} (h : PE X (.Name x px) (tVar i)) (hb : DE X W np e mb)
    (hg : ∀ (Hf H : Hp) (l : List Dat) (a : Addr) (xs : List V) (dy d : Dat) (y : V), Same Hf H → H a = some (.lst xs) → Reps X.K Hf l xs → Rep X.K Hf dy y → g (.lst l) dy = some d → ∀ Q : VK, (∀ v, Rep X.K Hf d v → Q v H) → r (.ref a) [y] H Q) (hgn : ∀ x y d, g x y = some d → ∃ l, x = .lst l)
    (hm : ∀ {te : TE}, PE X e te → PE X (.Call (.Attribute (.Name x px) m apos) [e] [] pos) (tBM X.K "list" r (tVar i) (tCons te tNil))) :
    DE X W np (.Call (.Attribute (.Name x px) m apos) [e] [] pos) (qryE g i mb) := by
  refine PE.wk (hm hb) fun σ H Q ⟨Hf, η, R, p⟩ => ?_
  obtain ⟨y, xv, hx, ry, p2⟩ := p.peek R
  obtain ⟨_, hy, p4⟩ := p2.bndL
  unfold isLst at hy
  split at hy
  · obtain ⟨a0, xs0, rfl, q1, q2⟩ := ry.lst R.ex
    refine ⟨_, hx, .inl ⟨rfl, xs0, SqL.of q1⟩, Hf, η, R, p4.bnd fun d Hf2 H2 η2 σ2 R2 S2 p3 e2 v rv => ?_⟩
    subst e2
    obtain ⟨dx, v', h1, h2, p5⟩ := p3.peek R2
    rw [hx] at h1; cases h1
    obtain ⟨z, hz, q⟩ := p5.lft R2
    have key : ∀ l, dx = .lst l → r (.ref a0) [v] H2 Q := fun l hl => by
      subst hl
      obtain ⟨a1, ys, e1, k1, k2⟩ := h2.lst R2.ex
      cases e1
      exact hg Hf2 H2 l a0 ys d z v R2.ex k1 k2 rv hz Q fun w rw' => q Hf2 H2 (.refl R2.ex) rfl w rw'
    obtain ⟨l, hl⟩ := hgn _ _ _ hz
    exact key l hl
  · cases hy
theorem cntQ_ok {Hf H : Hp} {l : List Dat} {a : Addr} {xs : List V} {dy d : Dat} {y : V} (e : Same Hf H) (h : H a = some (.lst xs)) (r : Reps X.K Hf l xs) (ry : Rep X.K Hf dy y) (hd : dCntQ (.lst l) dy = some d) (Q : VK) (q : ∀ v, Rep X.K Hf d v → Q v H) : rCntQ X.K (.ref a) [y] H Q := by
  obtain ⟨bs, h1, rfl⟩ := Option.map_eq_some_iff.mp hd
  exact ⟨Hf, dy, y, l, a, xs, bs, e, rfl, ry, rfl, SqL.of h, r, h1, q _ .int⟩
theorem idxQ_ok {Hf H : Hp} {l : List Dat} {a : Addr} {xs : List V} {dy d : Dat} {y : V} (e : Same Hf H) (h : H a = some (.lst xs)) (r : Reps X.K Hf l xs) (ry : Rep X.K Hf dy y) (hd : dIdxQ (.lst l) dy = some d) (Q : VK) (q : ∀ v, Rep X.K Hf d v → Q v H) : rIdxQ X.K (.ref a) [y] H Q := by
  obtain ⟨bs, h1, h2⟩ := Option.bind_eq_some_iff.mp hd
  obtain ⟨j, h3, rfl⟩ := Option.map_eq_some_iff.mp h2
  exact ⟨Hf, dy, y, l, a, xs, bs, j, e, rfl, ry, rfl, SqL.of h, r, h1, h3, q _ .int⟩
theorem cntQ_only {x y d : Dat} (h : dCntQ x y = some d) : ∃ l, x = .lst l := by
  cases x <;> first | (cases h; done) | exact ⟨_, rfl⟩
theorem idxQ_only {x y d : Dat} (h : dIdxQ x y = some d) : ∃ l, x = .lst l := by
  cases x <;> first | (cases h; done) | exact ⟨_, rfl⟩
theorem de_cntQ (hu : X.A.units + 64 < cLine) (i : Nat) {x : Str} {px : Pos} (h : PE X (.Name x px) (tVar i)) (hb : DE X W np e mb)
    (hm : ∀ {te : TE}, PE X e te → PE X (.Call (.Attribute (.Name x px) "count" apos) [e] [] pos) (tBM X.K "list" (rCntQ X.K) (tVar i) (tCons te tNil))) :
    DE X W np (.Call (.Attribute (.Name x px) "count" apos) [e] [] pos) (qryE dCntQ i mb) := de_qry i h hb (fun Hf H l a xs dy d y => cntQ_ok) (fun x y d h => cntQ_only h) hm
theorem de_idxQ (hu : X.A.units + 64 < cLine) (i : Nat) {x : Str} {px : Pos} (h : PE X (.Name x px) (tVar i)) (hb : DE X W np e mb)
    (hm : ∀ {te : TE}, PE X e te → PE X (.Call (.Attribute (.Name x px) "index" apos) [e] [] pos) (tBM X.K "list" (rIdxQ X.K) (tVar i) (tCons te tNil))) :
    DE X W np (.Call (.Attribute (.Name x px) "index" apos) [e] [] pos) (qryE dIdxQ i mb) := de_qry i h hb (fun Hf H l a xs dy d y => idxQ_ok) (fun x y d h => idxQ_only h) hm
/-! l.remove(e), l a name that owns a list -/
noncomputable def lRem (v : Dat) : Dat → Option Dat
  | .lst l => (deqX (deq 8) v l).bind fun bs => (first bs).map fun j => .lst (l.eraseIdx j)
  | _ => none
theorem Reps.erase {K : PySem.W.Frag} {H : Hp} : ∀ {l : List Dat} {xs : List V} (j : Nat), Reps K H l xs → Reps K H (l.eraseIdx j) (xs.eraseIdx j)
  | _, _, _, .nil => .nil
  | _, _, 0, .cons _ r => r
  | _, _, j + 1, .cons h r => .cons h (r.erase j)
noncomputable abbrev sRem (i : Nat) (mb : M Dat) : M Out := bnd (mPeek i) fun y => bnd (lft (isLst y)) fun _ => bnd mb fun v => bnd (owSet i (lRem v)) fun _ => ret .nx
theorem ds_rem (hu : X.A.units + 64 < cLine) (i : Nat) {x : Str} {px : Pos} (h : PE X (.Name x px) (tVar i)) (hv : DE X W np e mb)
    (hm : ∀ {te : TE}, PE X e te → PE X (.Call (.Attribute (.Name x px) "remove" apos) [e] [] pos') (tBM X.K "list" (rRemQ X.K) (tVar i) (tCons te tNil)))
    (hs : swapsWith (.Call (.Attribute (.Name x px) "remove" apos) [e] [] pos') none pos.line X.env = pure false := by rfl) :
    DS X W np (.Expr (.Call (.Attribute (.Name x px) "remove" apos) [e] [] pos') pos) (sRem i mb) := by
  refine PS.wk (ps_expr (hm hv) hs) fun E σ H ⟨Hf, η, R, p⟩ => ?_
  obtain ⟨y, xv, hx, ry, p2⟩ := p.peek R
  obtain ⟨_, hy, p4⟩ := p2.bndL
  unfold isLst at hy
  split at hy
  · obtain ⟨a0, xs0, rfl, q1, q2⟩ := ry.lst R.ex
    refine ⟨_, hx, .inl ⟨rfl, xs0, SqL.of q1⟩, Hf, η, R, p4.bnd fun d Hf2 H2 η2 σ2 R2 S2 p3 e2 v rv => ?_⟩
    subst e2
    unfold bnd owSet at p3
    split at p3
    · rename_i u η' hu'
      split at hu'
      · rename_i dd hd
        obtain ⟨aa, Fo, g1, g3, g2⟩ := R2.ow i dd hd
        rw [hx] at g1; cases g1
        split at hu'
        · rename_i d' hd'
          cases hu'
          unfold lRem at hd'
          split at hd'
          · rename_i l
            obtain ⟨bs, h1, h2⟩ := Option.bind_eq_some_iff.mp hd'
            obtain ⟨j, h3, rfl⟩ := Option.map_eq_some_iff.mp h2
            cases g3 with
            | lst k1 k2 =>
              rename_i xs
              refine ⟨Hf2, d, v, l, a0, xs, bs, j, R2.ex, rfl, rv, rfl, k1, k2, h1, h3, ?_⟩
              obtain ⟨r4, s4⟩ := Rl.write (np := np) (u := .lst (xs.eraseIdx j)) R2 hd hx (.lst k1 k2) (.lst upd_same (k2.erase j))
              exact p3 Hf2 _ σ2 r4 s4
          · cases hd'
        · cases hu'
      · cases hu'
    · rename_i x0 η' hu'
      split at hu'
      · split at hu' <;> cases hu'
      · cases hu'
    · exact False.elim p3
  · cases hy
end
end D

namespace D
open PySem L2
/-! ### new trees -/
noncomputable def rdR (K : PySem.W.Frag) (np : Nat) (W : WX) (m : M Dat) : TE := fun σ H Q => ∃ Hf η, Rl K Hf H η σ ∧ Pst K np W Hf H η σ (fun d Hf' H' η' σ' => σ' = σ → ∀ p F, Tr K Hf' H' F p d → Fsh K Hf H η σ Hf' H' η' σ' F → Q (.ref p) H') (m η)
noncomputable abbrev DR (X : Cx) (W : WX) (np : Nat) (e : Expr) (m : M Dat) : Prop := PE X e (rdR X.K np W m)
section
variable {K : PySem.W.Frag} {Hf H : Hp}
theorem pts_of : ∀ {l : List Dat} {xs : List V}, Reps K Hf l xs → Pts K Hf H [] xs l
  | _, _, .nil => .nil
  | _, _, .cons h r => .cons (F := []) (G := []) (.fr h) (pts_of r) (fun b z => (nomatch z))
theorem repk_pts : ∀ {l : List (Key × Dat)} {xs : List (Key × V)}, RepK K Hf l xs → xs.map (·.1) = l.map (·.1) ∧ Reps K Hf (l.map (·.2)) (xs.map (·.2))
  | _, _, .nil => ⟨rfl, .nil⟩
  | _, _, .cons h r => ⟨by rw [List.map_cons, List.map_cons, (repk_pts r).1], .cons h (repk_pts r).2⟩
theorem rept_pts : ∀ {l : List (List Key × Dat)} {xs : List (List Key × V)}, RepT K Hf l xs → xs.map (·.1) = l.map (·.1) ∧ Reps K Hf (l.map (·.2)) (xs.map (·.2))
  | _, _, .nil => ⟨rfl, .nil⟩
  | _, _, .cons h r => ⟨by rw [List.map_cons, List.map_cons, (rept_pts r).1], .cons h (rept_pts r).2⟩
theorem repf_pts : ∀ {l : List (Str × Dat)} {xs : List (Str × V)}, RepF K Hf l xs → xs.map (·.1) = l.map (·.1) ∧ Reps K Hf (l.map (·.2)) (xs.map (·.2))
  | _, _, .nil => ⟨rfl, .nil⟩
  | _, _, .cons h r => ⟨by rw [List.map_cons, List.map_cons, (repf_pts r).1], .cons h (repf_pts r).2⟩
/-- a flat thing is a tree -/
theorem flat_tr {a : Addr} {d : Dat} (o : OwnF K Hf H a d) : Tr K Hf H [a] a d := by
  obtain ⟨o, n⟩ := o
  cases o with
  | own t => exact absurd rfl (n _)
  | lst h r => exact .lst h (pts_of r) (fun z => (nomatch z))
  | dic h r => exact .dic h (repk_pts r).1 (pts_of (repk_pts r).2) (fun z => (nomatch z))
  | dit h r => exact .dit h (rept_pts r).1 (pts_of (rept_pts r).2) (fun z => (nomatch z))
  | obj h r => exact .obj h (repf_pts r).1 (pts_of (repf_pts r).2) (fun z => (nomatch z))
end
section
variable {X : Cx} {W : WX} {np : Nat} {a b c e o : Expr} {es : List Expr} {pos apos pos' p : Pos} {ma mb : M Dat} {ms : M (List Ai)}
theorem dr_of (h : DO X W np e ma) : DR X W np e ma := by
  refine PE.wk h fun σ H Q ⟨Hf, η, R, p⟩ => ⟨Hf, η, R, ?_⟩
  cases z : ma η with
  | ok d η' =>
    rw [z] at p
    exact fun Hf' H' σ' r s q pa n1 n2 o no => p Hf' H' σ' r s q pa [pa] (flat_tr o) (.one n1 n2 no)
  | rs x η' => rw [z] at p; exact p
  | bad => rw [z] at p; exact p
noncomputable def tRes : Sl → Option Dat
  | .ow (.own t) => some t
  | _ => none
theorem tRes_ok {s : Sl} {d : Dat} (h : tRes s = some d) : s = .ow (.own d) := by
  unfold tRes at h
  split at h
  · cases h; rfl
  · cases h
variable {k n : Nat} {F : M Sl} {x : Str} {dds : List Dat}
theorem rd_callT {K : PySem.W.Frag} {Hf H Hf0 H0 : Hp} {η η0 : En} {σ σ0 : St} {its : List Ai} {vs : List V} {Q : VK} (r : Rl K Hf H η σ) (A : Ais K Hf σ its vs) (h0 : ∀ p, Nw K Hf H η σ p → Nw K Hf0 H0 η0 σ0 p)
    (pp : Pst K np W Hf H η σ (fun d Hf' H' η' σ' => σ' = σ → ∀ p F, Tr K Hf' H' F p d → Fsh K Hf0 H0 η0 σ0 Hf' H' η' σ' F → Q (.ref p) H') (bnd (callF n F its) (fun r => lft (tRes r)) η)) : spD K n F vs H Q (fun cls d H => W cls d σ H) := by
  unfold bnd at pp
  refine sp_call (np := np) r A (fun z => by rw [z] at pp; exact pp) (fun s η' z Hf' H' R' S' => ?_) (fun x η' z Hf' H' dx R' S' pay => ?_)
  · rw [z] at pp
    cases s with
    | no => exact pp
    | fr d => exact False.elim pp
    | ow d =>
      have pp : Pst K np W Hf H η σ (fun d Hf' H' η' σ' => σ' = σ → ∀ p F, Tr K Hf' H' F p d → Fsh K Hf0 H0 η0 σ0 Hf' H' η' σ' F → Q (.ref p) H') (lft (tRes (.ow d)) η') := pp
      cases zz : tRes (.ow d) with
      | none => rw [zz] at pp; exact False.elim pp
      | some d' =>
        have e1 := tRes_ok zz
        cases e1
        rw [zz] at pp
        intro p Fo o fs
        cases o with
        | own t => exact pp Hf' H' σ R' S' rfl p Fo t fun b hb => ⟨h0 b (fs b hb).1, (fs b hb).2⟩
  · rw [z] at pp
    exact pp Hf' H' σ dx R' S' pay
theorem dr_fn (G : Fn X.prog X.w X.K X.mg X.base k x n dds F) (hr : Room k X.A) (hg : Gl X x) (tk : L2N.Takes X W) (ha : DA X W np (e :: es) ms) (hdb : (x == ("__debug__" : Str)) = false := by decide) (he : starEach (e :: es) X.env = (false, eval e X.env) :: starEach es X.env := by rfl) (hpl : (backTo pos (starEach es X.env)).any (·.1) = false := by rfl) :
    DR X W np (.Call (.Name x p) (e :: es) [] pos) (bnd ms fun its => bnd (callF n F (its ++ dds.map .va)) fun r => lft (tRes r)) := by
  obtain ⟨fd, ps, h1, h2, ⟨ds, dvs, h3, h4, h5⟩, h6, h7⟩ := G
  refine PE.wk (pe_callSD (E := WE W) h2 hr hg h7 h6 h4 h3 (L2N.passAt tk) ha hdb he hpl) fun σ H Q ⟨Hf, η, R, p⟩ => ⟨Hf, η, R, p.bnd fun its Hf1 H1 η1 σ1 R1 S1 p1 e1 vs rvs => ?_⟩
  subst e1
  exact rd_callT R1 (rvs.app (h5 Hf1)) (fun _ z => z.from S1) p1
/-! stored, told -/
theorem ds_setT {i : Nat} {x : Str} (hs : ∀ {te : TE}, PE X e te → PS X (.Assign [.Name x pos'] e pos) (tAsg te (gName i))) (he : DR X W np e ma) : DS X W np (.Assign [.Name x pos'] e pos) (bnd ma fun d => sSetO np i (.own d)) := by
  refine PS.wk (hs he) fun E σ H ⟨Hf, η, R, p⟩ => ⟨Hf, η, R, ?_⟩
  unfold bnd at p
  cases z : ma η with
  | ok d η' =>
    rw [z] at p
    intro Hf1 H1 σ1 R1 S1 e1 pa F t fs
    subst e1
    unfold sSetO at p
    by_cases hi : i < np
    · simp only [hi, if_true] at p; exact False.elim p
    · simp only [hi, if_false] at p
      obtain ⟨r2, s2⟩ := Rl.setO (np := np) (i := i) R1 hi (.own t) (fun b z => (fs b z).2.1) (fun b z => (fs b z).2.2)
      exact p Hf1 H1 _ r2 (s2 (fun b z => (fs b z).1) S1)
  | rs x η' => rw [z] at p; exact p
  | bad => rw [z] at p; exact p
theorem ds_retT (he : DR X W np e ma) : DS X W np (.Return (some e) pos) (bnd ma fun d => ret (.ro (.own d))) := by
  refine PS.wk (ps_ret he) fun E σ H ⟨Hf, η, R, p⟩ => ⟨Hf, η, R, p.bnd fun d Hf1 H1 η1 σ1 R1 S1 p1 e1 pa F t fs => ?_⟩
  subst e1
  exact p1.ret R1 pa F (.own t) fs
end
/-! ### what is made and held by no slot stands through a step -/
section
variable {K : PySem.W.Frag} {np : Nat} {Hf H Hf' H' Hf0 H0 : Hp} {η η' η0 : En} {σ σ' σ0 : St} {F : List Addr}
theorem Fsh.stands (S : Stp K np Hf H η σ Hf' H' η' σ') (there : ∀ b ∈ F, ∃ u, H b = some u) (fs : Fsh K Hf0 H0 η0 σ0 Hf H η σ F) : Fsh K Hf0 H0 η0 σ0 Hf' H' η' σ' F ∧ ∀ b ∈ F, ∀ u, H b = some u → H' b = some u := by
  refine ⟨fun b hb => ?_, fun b hb u hu => S.fr b u hu (fs b hb).2.2⟩
  obtain ⟨u, hu⟩ := there b hb
  obtain ⟨_, h2, h3⟩ := S.cell hu (fs b hb).2.2 (fs b hb).2.1
  exact ⟨(fs b hb).1, h3, h2⟩
theorem Fsh.app {G : List Addr} (f : Fsh K Hf0 H0 η0 σ0 Hf H η σ F) (g : Fsh K Hf0 H0 η0 σ0 Hf H η σ G) : Fsh K Hf0 H0 η0 σ0 Hf H η σ (F ++ G) := fun b hb => (List.mem_append.mp hb).elim (f b) (g b)
end
/-! ### displays of trees -/
noncomputable def rdRs (K : PySem.W.Frag) (np : Nat) (W : WX) (m : M (List Dat)) : TA := fun σ H Q => ∃ Hf η, Rl K Hf H η σ ∧ Pst K np W Hf H η σ (fun ds Hf' H' η' σ' => σ' = σ → ∀ xs F, Pts K Hf' H' F xs ds → Fsh K Hf H η σ Hf' H' η' σ' F → Q xs H') (m η)
noncomputable abbrev DRs (X : Cx) (W : WX) (np : Nat) (es : List Expr) (m : M (List Dat)) : Prop := PA X es (rdRs X.K np W m)
section
variable {X : Cx} {W : WX} {np : Nat} {e : Expr} {es : List Expr} {pos : Pos} {ma : M Dat} {mr : M (List Dat)}
theorem drs_nil : DRs X W np [] (ret []) := PA.wk pa_nil fun σ H Q ⟨Hf, η, R, p⟩ => p Hf H σ R .refl rfl [] [] .nil (fun b z => (nomatch z))
theorem drs_fr (h : DE X W np e ma) (hr : DRs X W np es mr) (hs : starEach (e :: es) X.env = (false, eval e X.env) :: starEach es X.env := by rfl) : DRs X W np (e :: es) (bnd ma fun d => bnd mr fun l => ret (d :: l)) := by
  refine PA.wk (pa_cons h hr hs) fun σ H Q ⟨Hf, η, R, p⟩ => ⟨Hf, η, R, p.bnd fun d Hf1 H1 η1 σ1 R1 S1 p1 e1 v rv => ?_⟩
  subst e1
  refine ⟨Hf1, η1, R1, p1.bnd fun l Hf2 H2 η2 σ2 R2 S2 p2 e2 xs F ps fs => ?_⟩
  subst e2
  exact p2.ret R2 rfl (v :: xs) ([] ++ F) (.cons (.fr (rv.mono S2.ef)) ps fun b z => (nomatch z)) (fs.from S1)
theorem drs_tr (h : DR X W np e ma) (hr : DRs X W np es mr) (hs : starEach (e :: es) X.env = (false, eval e X.env) :: starEach es X.env := by rfl) : DRs X W np (e :: es) (bnd ma fun d => bnd mr fun l => ret (.own d :: l)) := by
  refine PA.wk (pa_cons h hr hs) fun σ H Q ⟨Hf, η, R, p⟩ => ⟨Hf, η, R, p.bnd fun d Hf1 H1 η1 σ1 R1 S1 p1 e1 pa F t fs => ?_⟩
  subst e1
  refine ⟨Hf1, η1, R1, p1.bnd fun l Hf2 H2 η2 σ2 R2 S2 p2 e2 xs G ps gs => ?_⟩
  subst e2
  obtain ⟨fs2, k2⟩ := fs.stands S2 (fun b hb => t.there b hb)
  refine p2.ret R2 rfl (.ref pa :: xs) (F ++ G) (.cons (.own (t.mono S2.ef R2.ex k2)) ps fun b hb hg => ?_) (fs2.app (gs.from S1))
  rcases (gs b hg).1 with z | z
  · obtain ⟨u, hu⟩ := t.there b hb
    rw [hu] at z; cases z
  · exact (fs b hb).2.2 z
noncomputable def fitL (l : List Dat) : Option (List Dat) := if fits l.length = true then some l else none
/-- a tuple, a list of trees -/
theorem dr_tup {j : Nat} (h : DRs X W np es mr) : DR X W np (.Tuple es j pos) (bnd mr fun l => bnd (lft (fitL l)) fun l => ret (.tup l)) := by
  refine PE.wk (pe_tup h) fun σ H Q ⟨Hf, η, R, p⟩ => ⟨Hf, η, R, p.bnd fun l Hf1 H1 η1 σ1 R1 S1 p1 e1 xs F ps fs => ?_⟩
  subst e1
  obtain ⟨l', hl, p2⟩ := p1.bndL
  unfold fitL at hl
  split at hl
  · rename_i hf
    cases hl
    have hlen : ∀ {F : List Addr} {xs : List V} {l : List Dat}, Pts X.K Hf1 H1 F xs l → xs.length = l.length := fun {F xs l} q => by
      exact Pts.length q
    refine ⟨by rw [hlen ps]; exact fits_le hf, fun pa n => ?_⟩
    have ex := Ext.new (u := .tup xs) R1.ex n
    have S2 := Stp.ofExt (np := np) R1 ex
    obtain ⟨fs2, k2⟩ := fs.stands S2 (fun b hb => ps.there b hb)
    exact p2 _ _ σ1 (R1.ext ex) S2 rfl pa F (.tup upd_same (ps.mono ex.ef ex.ex k2) upd_same) fs2
  · cases hl
theorem dr_lst (h : DRs X W np es mr) : DR X W np (.List es pos) (bnd mr fun l => bnd (lft (fitL l)) fun l => ret (.lst l)) := by
  refine PE.wk (pe_lst h) fun σ H Q ⟨Hf, η, R, p⟩ => ⟨Hf, η, R, p.bnd fun l Hf1 H1 η1 σ1 R1 S1 p1 e1 xs F ps fs => ?_⟩
  subst e1
  obtain ⟨l', hl, p2⟩ := p1.bndL
  unfold fitL at hl
  split at hl
  · rename_i hf
    cases hl
    refine ⟨by rw [Pts.length ps]; exact fits_le hf, fun pa n => ?_⟩
    have nf : Hf1 pa = none := R1.ex.free n
    have no : ¬ Own X.K Hf1 H1 η1 σ1 pa := own_none n
    have ex : Ext Hf1 H1 Hf1 (upd H1 pa (.lst xs)) := ⟨.refl _, same_upd n, R1.ex.trans (same_upd n), fun _ _ h => .inl h⟩
    have S2 := Stp.ofExt (np := np) R1 ex
    obtain ⟨fs2, k2⟩ := fs.stands S2 (fun b hb => ps.there b hb)
    refine p2 _ _ σ1 (R1.ext ex) S2 rfl pa (pa :: F) (.lst upd_same (ps.mono ex.ef ex.ex k2) fun z => ?_) fun b hb => ?_
    · obtain ⟨u, hu⟩ := ps.there pa z
      rw [n] at hu; cases hu
    · rcases List.mem_cons.mp hb with z | z
      · rw [z]; exact ⟨.inl (S1.nn pa n), nf, fun q => no (Own.ofExt R1 ex q)⟩
      · exact fs2 b z
  · cases hl
end
/-! ### [e for x in l], e a new tree -/
theorem Pts.snoc {K : PySem.W.Frag} {Hf H : Hp} {F2 : List Addr} {x : V} {d : Dat} (h : Pt K Hf H F2 x d) : ∀ {F : List Addr} {xs : List V} {l : List Dat}, Pts K Hf H F xs l → (∀ b ∈ F, b ∉ F2) → Pts K Hf H (F ++ F2) (xs ++ [x]) (l ++ [d])
  | _, _, _, .nil, _ => by
    have q := Pts.cons h .nil (fun b _ z => nomatch z)
    rw [List.append_nil] at q; exact q
  | _, _, _, @Pts.cons _ _ _ F G y e xs l hy r n, dj => by
    rw [List.append_assoc]
    refine .cons hy (Pts.snoc h r fun b z => dj b (List.mem_append_right _ z)) fun b z q => ?_
    rcases List.mem_append.mp q with q | q
    · exact n b z q
    · exact dj b (List.mem_append_left _ z) q
noncomputable def mLcT (vs : List Nat) (f : Dat → M Unit) (mt : M Bool) (me : M Dat) (items : List Dat) : M Dat :=
  if fits items.length then bnd (wipeM vs) fun _ => bnd (lcGo vs f mt me items) fun l => ret (.lst (l.map .own)) else stk
section
variable {X : Cx} {W : WX} {np : Nat} {elt tg it : Expr} {ifs : List Expr} {scope : Scope} {own : List (Str × Nat)} {pos : Pos} {mi : M (List Dat)} {fg : Dat → M Unit} {mt : M Bool} {me : M Dat} {vs : List Nat}
theorem lcT_rd {K : PySem.W.Frag} {σ : St} {H : Hp} {Q : VK} (hh : rdR K np W (bnd mi fun items => mLcT vs fg mt me items) σ H Q) : tLc (rdI K np W mi) (rdGw K np vs fg) (rdT K np W0 mt) (rdR K np W0 me) vs σ H Q := by
  obtain ⟨Hf, η, R, p⟩ := hh
  refine ⟨Hf, η, R, p.bnd fun items Hf1 H1 η1 σ1 R1 S1 p1 e1 J wk => ?_⟩
  subst e1
  intro Da nD
  unfold mLcT at p1
  by_cases hf : fits items.length = true
  · rw [if_pos hf] at p1
    have hlen : items.length ≤ 1000000 := of_decide_eq_true hf
    obtain ⟨Rw, Sw⟩ := Rl.wipe (np := np) R1 vs
    have pw : Pst K np W Hf1 H1 η1 σ1 (fun d Hf' H' η' σ' => σ' = σ1 → ∀ p F, Tr K Hf' H' F p d → Fsh K Hf H η σ1 Hf' H' η' σ' F → Q (.ref p) H') (bnd (lcGo vs fg mt me items) (fun l => ret (.lst (l.map .own))) (wipeE η1 vs)) := p1
    have unw : ∀ {Hf' H' : Hp} {η' : En} {F : List Addr}, Rl K Hf' H' η' (L2.wipe σ1 vs) → Fsh K Hf1 H1 η1 σ1 Hf' H' η' (L2.wipe σ1 vs) F → Fsh K Hf1 H1 η1 σ1 Hf' H' η' σ1 F := fun r fs b hb => ⟨(fs b hb).1, (fs b hb).2.1, fun ⟨i, d, a, G, g1, g2, g4⟩ => (fs b hb).2.2 (by
      obtain ⟨a', _, g3, _⟩ := r.ow i d g1
      rw [(wipe_some g3).1] at g2; cases g2
      exact ⟨i, d, _, G, g1, g3, g4⟩)⟩
    have pb : Pst K np W Hf1 H1 η1 σ1 (fun l Hf' H' η' σ' => σ' = L2.wipe σ1 vs → ∀ xs F, H' Da = some (.lst xs) → Pts K Hf' H' F xs (l.map .own) → Fsh K Hf1 H1 η1 σ1 Hf' H' η' σ' (Da :: F) → Da ∉ F → Q (.ref Da) H') (lcGo vs fg mt me items (wipeE η1 vs)) := by
      have hh := pw
      unfold bnd at hh
      cases z : lcGo vs fg mt me items (wipeE η1 vs) with
      | ok l η' =>
        rw [z] at hh
        intro Hf' H' σ' r s e2 xs F h1 h2 fs nm
        subst e2
        obtain ⟨ru, su⟩ := Rl.unwipe (np := np) r
        exact hh Hf' H' σ1 ru (s.trans su) rfl Da (Da :: F) (.lst h1 h2 nm) ((unw r fs).from S1)
      | rs x η' => rw [z] at hh; exact hh
      | bad => rw [z] at hh; exact hh
    have noD : ∀ {η : En} {σ : St}, ¬ Own K Hf1 H1 η σ Da := own_none nD
    have nfD : Hf1 Da = none := R1.ex.free nD
    refine ⟨fun i m H' => m = items.length - i ∧ i ≤ items.length ∧ ∃ Hf' η' acc xs F, Same Hf1 Hf' ∧ Rl K Hf' H' η' (L2.wipe σ1 vs) ∧ Stp K np Hf1 H1 η1 σ1 Hf' H' η' (L2.wipe σ1 vs) ∧ H' Da = some (.lst xs) ∧ Pts K Hf' H' F xs (acc.map .own) ∧ acc.length ≤ i ∧ Fsh K Hf1 H1 η1 σ1 Hf' H' η' (L2.wipe σ1 vs) (Da :: F) ∧ Da ∉ F ∧
        Pst K np W Hf1 H1 η1 σ1 (fun l Hf' H' η' σ' => σ' = L2.wipe σ1 vs → ∀ xs F, H' Da = some (.lst xs) → Pts K Hf' H' F xs ((acc ++ l).map .own) → Fsh K Hf1 H1 η1 σ1 Hf' H' η' σ' (Da :: F) → Da ∉ F → Q (.ref Da) H') (lcGo vs fg mt me (items.drop i) η'),
      ⟨items.length, by simp, Nat.zero_le _, Hf1, _, [], [], [], .refl _, Rw.updNew nfD noD, Sw.updNew Rw nfD noD nD, upd_same, .nil, Nat.le_refl _, .one (.inl nD) nfD (fun z => noD (Own.ofUpd Rw nfD noD z)), (fun z => nomatch z), pb⟩, ?_⟩
    rintro i m H2 ⟨rfl, hi2, Hf2, η2, acc, xs, F, sm, R2, S2, hD, rA, hA, fsA, nmA, p2⟩
    have thA : ∀ {G : Hp} {Hg : Hp} {F : List Addr} {xs : List V} {l : List Dat}, G Da = some (.lst xs) → Pts K Hg G F xs l → ∀ b ∈ Da :: F, ∃ u, G b = some u := fun h r b hb => (List.mem_cons.mp hb).elim (fun z => by rw [z]; exact ⟨_, h⟩) (r.there b)
    by_cases hlt : i < items.length
    · refine .inr ⟨wk.go i H2 (sm.trans R2.ex) hlt, fun H' => ∃ Hf' η' acc xs F, Same Hf1 Hf' ∧ Rl K Hf' H' η' (L2.wipe σ1 vs) ∧ Stp K np Hf1 H1 η1 σ1 Hf' H' η' (L2.wipe σ1 vs) ∧ H' Da = some (.lst xs) ∧ Pts K Hf' H' F xs (acc.map .own) ∧ acc.length ≤ i + 1 ∧ Fsh K Hf1 H1 η1 σ1 Hf' H' η' (L2.wipe σ1 vs) (Da :: F) ∧ Da ∉ F ∧
          Pst K np W Hf1 H1 η1 σ1 (fun l Hf' H' η' σ' => σ' = L2.wipe σ1 vs → ∀ xs F, H' Da = some (.lst xs) → Pts K Hf' H' F xs ((acc ++ l).map .own) → Fsh K Hf1 H1 η1 σ1 Hf' H' η' σ' (Da :: F) → Da ∉ F → Q (.ref Da) H') (lcGo vs fg mt me (items.drop (i + 1)) η'),
        fun H' q => ⟨items.length - (i + 1), by omega, rfl, hlt, q⟩, fun x H' y => ?_⟩
      obtain ⟨d, Hf3, hd, ex, rx⟩ := wk.yld i Hf2 H2 x H' sm R2.ex hlt y
      have hdr : items.drop i = d :: items.drop (i + 1) := by
        rw [List.drop_eq_getElem_cons hlt]
        rw [List.getElem?_eq_getElem hlt] at hd
        cases hd; rfl
      rw [hdr] at p2
      have Se := Stp.ofExt (np := np) R2 ex
      obtain ⟨fs3, k3⟩ := fsA.stands Se (thA hD rA)
      have hD3 := k3 Da (List.mem_cons_self ..) _ hD
      have rA3 := rA.mono ex.ef ex.ex fun b hb => k3 b (List.mem_cons_of_mem _ hb)
      have S3 := S2.trans Se
      refine ⟨Hf3, η2, d, R2.ext ex, rx, Pst.nox (W := W) (Pst.bnd2 p2 S3 fun _ Hf4 H4 η4 σ4 R4 S4 p4 ew => ?_)⟩
      obtain ⟨fs4, k4⟩ := fs3.stands S4 (thA hD3 rA3)
      have hD4 := k4 Da (List.mem_cons_self ..) _ hD3
      have rA4 := rA3.mono S4.ef R4.ex fun b hb => k4 b (List.mem_cons_of_mem _ hb)
      have S5 := S3.trans S4
      have ew : L2.wipe σ4 vs = L2.wipe σ1 vs := by
        rw [ew]
        apply List.ext_getElem?
        intro j
        rw [wipe_char, wipe_char]
        by_cases hm : j ∈ vs
        · rw [if_pos hm, if_pos hm]
          cases σ1[j]? <;> rfl
        · rw [if_neg hm]
      refine ⟨ew, Hf4, η4, R4, Pst.nox (W := W) (Pst.bnd2 p4 S5 fun k Hf5 H5 η5 σ5 R5 S6 p5 e5 => ?_)⟩
      subst e5
      obtain ⟨fs5, k5⟩ := fs4.stands S6 (thA hD4 rA4)
      have hD5 := k5 Da (List.mem_cons_self ..) _ hD4
      have rA5 := rA4.mono S6.ef R5.ex fun b hb => k5 b (List.mem_cons_of_mem _ hb)
      have S7 := S5.trans S6
      have sm5 : Same Hf1 Hf5 := sm.trans (ex.ef.trans (S4.ef.trans S6.ef))
      cases k with
      | true =>
        rw [if_pos rfl]
        refine ⟨Hf5, η5, R5, Pst.nox (W := W) (Pst.bnd2 p5 S7 fun y Hf6 H6 η6 σ6 R6 S8 p6 e6 pa F2 t2 fs2 => ?_)⟩
        subst e6
        obtain ⟨fs6, k6⟩ := fs5.stands S8 (thA hD5 rA5)
        have hD6 := k6 Da (List.mem_cons_self ..) _ hD5
        have rA6 := rA5.mono S8.ef R6.ex fun b hb => k6 b (List.mem_cons_of_mem _ hb)
        -- what is told now is none of what stood
        have dj : ∀ b ∈ Da :: F, b ∉ F2 := fun b hb hg => by
          rcases (fs2 b hg).1 with z | z
          · obtain ⟨u, hu⟩ := thA hD5 rA5 b hb
            rw [hu] at z; cases z
          · exact (fs5 b hb).2.2 z
        obtain ⟨Rw7, Sw7⟩ := Rl.wipe (np := np) R6 vs
        rw [ew] at Rw7 Sw7
        have fs6' : Fsh K Hf1 H1 η1 σ1 Hf6 H6 η6 σ6 (Da :: (F ++ F2)) := by
          have q := fs6.app (fs2.from S7)
          rwa [List.cons_append] at q
        have pt6 : Pts K Hf6 H6 (F ++ F2) (xs ++ [.ref pa]) ((acc ++ [y]).map .own) := by
          rw [List.map_append]
          exact Pts.snoc (.own t2) rA6 fun b hb => dj b (List.mem_cons_of_mem _ hb)
        obtain ⟨fs7, _⟩ := fs6'.stands Sw7 (fun b hb => (List.mem_cons.mp hb).elim (fun z => by rw [z]; exact ⟨_, hD6⟩) (pt6.there b))
        have no7 := (fs7 Da (List.mem_cons_self ..)).2.2
        have nf6 := (fs6' Da (List.mem_cons_self ..)).2.1
        have nm7 : Da ∉ F ++ F2 := fun z => (List.mem_append.mp z).elim nmA (dj Da (List.mem_cons_self ..))
        refine ⟨xs, hD6, ?_, Hf6, _, acc ++ [y], xs ++ [.ref pa], F ++ F2, sm5.trans S8.ef, Rw7.updNew nf6 no7, ((S7.trans S8).trans Sw7).updNew Rw7 nf6 no7 nD, upd_same, pt6.mono (.refl _) (Rw7.updNew nf6 no7).ex (fun b hb u hu => by rw [upd_ne fun z => nm7 (by rw [← z]; exact hb)]; exact hu), by simp; omega, fun b hb => ⟨(fs7 b hb).1, (fs7 b hb).2.1, fun z => (fs7 b hb).2.2 (Own.ofUpd Rw7 nf6 no7 z)⟩, nm7, ?_⟩
        · rw [Pts.length rA, List.length_map]; exact Nat.lt_of_le_of_lt (Nat.le_trans hA (Nat.le_of_lt (Nat.lt_of_lt_of_le hlt hlen))) (by decide)
        · have p7 : Pst K np W Hf1 H1 η1 σ1 _ (bnd (lcGo vs fg mt me (items.drop (i + 1))) (fun r => ret (y :: r)) (wipeE η6 vs)) := p6
          unfold bnd at p7
          cases z : lcGo vs fg mt me (items.drop (i + 1)) (wipeE η6 vs) with
          | ok l η' =>
            rw [z] at p7
            intro Hf' H' σ' r s e8 xs' F' h8 r8 fs8 nm8
            exact p7 Hf' H' σ' r s e8 xs' F' h8 (by rw [List.append_assoc] at r8; exact r8) fs8 nm8
          | rs xx η' => rw [z] at p7; exact p7
          | bad => rw [z] at p7; exact p7
      | false =>
        obtain ⟨Rw7, Sw7⟩ := Rl.wipe (np := np) R5 vs
        rw [ew] at Rw7 Sw7
        obtain ⟨fs7, k7⟩ := fs5.stands Sw7 (thA hD5 rA5)
        show ∃ _, _
        exact ⟨Hf5, _, acc, xs, F, sm5, Rw7, S7.trans Sw7, hD5, rA5, by omega, fs7, nmA, p5⟩
    · have e : i = items.length := by omega
      subst e
      rw [List.drop_length] at p2
      exact .inl ⟨wk.stop H2 (sm.trans R2.ex), p2 Hf2 H2 _ R2 S2 rfl xs F hD (by rw [List.append_nil]; exact rA) fsA nmA⟩
  · rw [if_neg hf] at p1
    exact False.elim p1
theorem dr_lc (hc : X.calm = true) (hN : X.N.Nodup) (hi : DI X W np tg it mi) (ok : BlkOk X.N X.env.scope scope own)
    (hg : ∀ (s : Shared) (H : Hp) (C : Addr) (cl : List (Str × Addr)) (fp : List Addr), DGw (X.blk s H scope (compEnvC scope cl C X.env) fp) np (own.map (·.2)) tg fg)
    (ht : ∀ (s : Shared) (H : Hp) (C : Addr) (cl : List (Str × Addr)) (fp : List Addr), PTs (X.blk s H scope (compEnvC scope cl C X.env) fp) ifs (rdT X.K np W0 mt))
    (he : ∀ (s : Shared) (H : Hp) (C : Addr) (cl : List (Str × Addr)) (fp : List Addr), DR (X.blk s H scope (compEnvC scope cl C X.env) fp) W0 np elt me)
    (hs : ∀ x, foldedSetIterable it X.env x = pure x := by intro _; rfl) :
    DR X W np (.ListComp elt [⟨tg, it, ifs, 0⟩] scope pos) (bnd mi fun items => mLcT (own.map (·.2)) fg mt me items) := by
  exact PE.wk (pe_lc (g := rdGw X.K np (own.map (·.2)) fg) (te := rdR X.K np W0 me) hc hN hi ok hg ht he hs) fun σ H Q h => lcT_rd h
end
end D

namespace D
open PySem L2
/-! ### for x in t[0] + t[1]: x[k] = v, t an own pair of lists of dicts: t is dead behind it -/
theorem Pts.app {K : PySem.W.Frag} {Hf H : Hp} {F2 : List Addr} {ys : List V} {m : List Dat} (h : Pts K Hf H F2 ys m) : ∀ {F : List Addr} {xs : List V} {l : List Dat}, Pts K Hf H F xs l → (∀ b ∈ F, b ∉ F2) → Pts K Hf H (F ++ F2) (xs ++ ys) (l ++ m)
  | _, _, _, .nil, _ => h
  | _, _, _, @Pts.cons _ _ _ F G y e xs l hy r n, dj => by
    rw [List.append_assoc]
    refine .cons hy (Pts.app h r fun b z => dj b (List.mem_append_right _ z)) fun b z q => ?_
    rcases List.mem_append.mp q with q | q
    · exact n b z q
    · exact dj b (List.mem_append_left _ z) q
section
variable {K : PySem.W.Frag} {Hf H : Hp} {F : List Addr} {a : Addr} {v : V}
theorem Pt.own_inv {d : Dat} (h : Pt K Hf H F v (.own d)) : ∃ a, v = .ref a ∧ Tr K Hf H F a d := by
  cases h with
  | fr r => cases r
  | own t => exact ⟨_, rfl, t⟩
theorem Tr.lst_inv {l : List Dat} (h : Tr K Hf H F a (.lst l)) : ∃ G xs, F = a :: G ∧ H a = some (.lst xs) ∧ Pts K Hf H G xs l ∧ a ∉ G := by
  cases h with
  | lst h r n => exact ⟨_, _, rfl, h, r, n⟩
theorem Tr.dic_inv {l : List (Key × Dat)} (h : Tr K Hf H F a (.dic l)) : ∃ G xs, F = a :: G ∧ H a = some (.dK xs) ∧ xs.map (·.1) = l.map (·.1) ∧ Pts K Hf H G (xs.map (·.2)) (l.map (·.2)) ∧ a ∉ G := by
  cases h with
  | dic h k r n => exact ⟨_, _, rfl, h, k, r, n⟩
theorem Tr.tup_inv {l : List Dat} (h : Tr K Hf H F a (.tup l)) : ∃ xs, H a = some (.tup xs) ∧ Pts K Hf H F xs l ∧ Hf a = some (.tup xs) := by
  cases h with
  | tup h r n => exact ⟨_, h, r, n⟩
theorem Pts.cons_inv {xs : List V} {d : Dat} {l : List Dat} (h : Pts K Hf H F xs (d :: l)) : ∃ F1 F2 x ys, F = F1 ++ F2 ∧ xs = x :: ys ∧ Pt K Hf H F1 x d ∧ Pts K Hf H F2 ys l ∧ ∀ b ∈ F1, b ∉ F2 := by
  cases h with
  | cons h r n => exact ⟨_, _, _, _, rfl, rfl, h, r, n⟩
end
noncomputable def kRow : Dat → Bool
  | .own (.dic m) => fits m.length
  | _ => false
theorem kRow_ok {d : Dat} (h : kRow d = true) : ∃ m, d = .own (.dic m) ∧ fits m.length = true := by
  unfold kRow at h
  split at h
  · exact ⟨_, rfl, h⟩
  · cases h
noncomputable def kTwo : Dat → Bool
  | .tup [.own (.lst l1), .own (.lst l2)] => (l1 ++ l2).all kRow && fits (l1.length + l2.length)
  | _ => false
theorem kTwo_ok {d : Dat} (h : kTwo d = true) : ∃ l1 l2, d = .tup [.own (.lst l1), .own (.lst l2)] ∧ (∀ e ∈ l1 ++ l2, kRow e = true) ∧ fits (l1.length + l2.length) = true := by
  unfold kTwo at h
  split at h
  · rw [Bool.and_eq_true] at h
    exact ⟨_, _, rfl, List.all_eq_true.mp h.1, h.2⟩
  · cases h
noncomputable def sKill (t i : Nat) : M Out := fun η => match η[t]?, η[i]? with
  | some (.ow (.own d)), some _ => if kTwo d = true then .ok .nx ((η.set t .no).set i .no) else .bad
  | _, _ => .bad
section
variable {K : PySem.W.Frag} {np : Nat} {Hf H Hf' H' : Hp} {η η' : En} {σ σ' : St}
/-- a cell of what is held by no slot is changed -/
theorem Stp.updNw {pa : Addr} {u : HO} (R' : Rl K Hf' H' η' σ') (n' : Hf' pa = none) (no : ¬ Own K Hf' H' η' σ' pa) (S : Stp K np Hf H η σ Hf' H' η' σ') (n : Nw K Hf H η σ pa) : Stp K np Hf H η σ Hf' (upd H' pa u) η' σ' :=
  ⟨S.ef, fun b o h q => by
    rw [upd_ne (fun z => by
      subst z
      rcases n with n | n
      · rw [n] at h; cases h
      · exact q n)]
    exact S.fr b o h q, fun b h => by
    by_cases z : b = pa
    · rw [z, upd_same] at h; cases h
    · rw [upd_ne z] at h; exact S.nn b h, fun b h => S.ow b (Own.ofUpd R' n' no h), S.nf, S.pr⟩
end
section
variable {X : Cx} {W : WX} {np : Nat} {e : Expr} {pos p1 p2 p3 p4 p5 p6 p7 p8 p9 px py pz : Pos} {j1 j2 j3 : Nat} {tv : TE}
theorem ds_kill {t i : Nat} {tn x key : Str} {z : Int} (hu : X.A.units + 64 < cLine) (hp : PassesOwn (model X.prog X.w) X.A X.env X.xe) (hc : X.calm = true) (ht : PE X (.Name tn p1) (tVar t)) (ht2 : PE X (.Name tn p2) (tVar t)) (hg : PG X (.Name x px) (gName i)) (hx : PE X (.Name x py) (tVar i))
    (hv : PE X e tv) (htv : ∀ (σ : St) (H : Hp) (Q : VK), Q (.int z) H → tv σ H Q) (hti : i ≠ t)
    (hsw : swapsWith e (some (.Subscript (.Name x py) (.Constant (.str key) j3 p9) pz)) pos.line X.env = pure false := by rfl)
    (hs : ∀ y, foldedSetIterable (.BinOp (.Subscript (.Name tn p1) (.Constant (.int 0) j1 p3) p4) .Add (.Subscript (.Name tn p2) (.Constant (.int 1) j2 p5) p6) p7) X.env y = pure y := by intro _; rfl) :
    DS X W np (.For (.Name x px) (.BinOp (.Subscript (.Name tn p1) (.Constant (.int 0) j1 p3) p4) .Add (.Subscript (.Name tn p2) (.Constant (.int 1) j2 p5) p6) p7) [.Assign [.Subscript (.Name x py) (.Constant (.str key) j3 p9) pz] e pos] [] p8) (sKill t i) := by
  refine PS.wk (ps_for hp hc (pi_list (pe_op op_cat (pe_ix ix_tup ht pe_int (fun _ _ => rfl)) (pe_ix ix_tup ht2 pe_int (fun _ _ => rfl)))) hg (pss_one (ps_dput (by omega) hx pe_str hv hsw)) hs) fun E σ H ⟨Hf, η, R, p⟩ => ?_
  unfold sKill at p
  split at p
  · rename_i d s0 hd hi
    split at p
    · rename_i hk
      obtain ⟨l1, l2, rfl, hrow, hfit⟩ := kTwo_ok hk
      obtain ⟨aa, Fo, g1, g2, g3⟩ := R.ow t _ hd
      cases g2 with
      | own tr =>
      obtain ⟨vs, hH, hP, hT⟩ := tr.tup_inv
      obtain ⟨F1, F2', v1, vs2, rfl, rfl, q1, hP2, dj1⟩ := hP.cons_inv
      obtain ⟨F2, F3, v2, vs3, rfl, rfl, q2, hP3, dj2⟩ := hP2.cons_inv
      cases hP3
      obtain ⟨a1, rfl, t1⟩ := q1.own_inv
      obtain ⟨a2, rfl, t2⟩ := q2.own_inv
      obtain ⟨G1, xs1, rfl, h1, r1, n1⟩ := t1.lst_inv
      obtain ⟨G2, xs2, rfl, h2, r2, n2⟩ := t2.lst_inv
      obtain ⟨Rd, Sd⟩ := R.drop (np := np) t
      have fsd : Fsh X.K Hf H η σ Hf H (η.set t .no) σ (a1 :: G1 ++ (a2 :: G2 ++ [])) := fun c hcm => ⟨.inr ⟨t, _, aa, _, hd, g1, .own tr, hcm⟩, g3 c hcm, fun ⟨j, d', b, G, w1, w2, w3, w4⟩ => by
        rcases set_get w1 with ⟨_, w⟩ | ⟨ne, w⟩
        · cases w
        · exact ne (R.ap j t d' _ b aa G _ c w hd w2 g1 w3 (.own tr) w4 hcm)⟩
      -- both rows of parts as one
      have pts : Pts X.K Hf H (G1 ++ G2) (xs1 ++ xs2) (l1 ++ l2) := Pts.app r2 r1 fun b w1 w2 => dj1 b (List.mem_cons_of_mem _ w1) (List.mem_append_left _ (List.mem_cons_of_mem _ w2))
      have sub : ∀ b ∈ G1 ++ G2, b ∈ a1 :: G1 ++ (a2 :: G2 ++ []) := fun b hb => by
        rcases List.mem_append.mp hb with w | w
        · exact List.mem_append_left _ (List.mem_cons_of_mem _ w)
        · exact List.mem_append_right _ (List.mem_append_left _ (List.mem_cons_of_mem _ w))
      have fs0 : Fsh X.K Hf H η σ Hf H (η.set t .no) σ (G1 ++ G2) := fun b hb => fsd b (sub b hb)
      refine ⟨_, g1, ⟨aa, _, 0, .ref a1, rfl, rfl, .inl (.inl hH), rfl, ?_⟩⟩
      refine ⟨_, g1, ⟨aa, _, 1, .ref a2, rfl, rfl, .inl (.inl hH), rfl, ?_⟩⟩
      refine ⟨a1, a2, xs1, xs2, rfl, rfl, h1, h2, by rw [Pts.length r1, Pts.length r2]; exact fits_le hfit, fun pl nl => ?_⟩
      refine ⟨pl, rfl, ⟨xs1 ++ xs2, SqL.of upd_same⟩, ?_⟩
      have nfl : Hf pl = none := R.ex.free nl
      have nol : ∀ {η' : En} {σ' : St}, ¬ Own X.K Hf H η' σ' pl := own_none nl
      obtain ⟨Rw, Sw⟩ := Rl.wipe (np := np) Rd [i]
      have fsw := (fs0.stands Sw fun b hb => Pts.there pts b hb).1
      have Rn := Rw.updNew (u := .lst (xs1 ++ xs2)) nfl nol
      have Sn := (Sd.trans Sw).updNew (u := .lst (xs1 ++ xs2)) Rw nfl nol nl
      have hle : (l1 ++ l2).length = (xs1 ++ xs2).length := (Pts.length pts).symm
      have plG : ∀ b ∈ G1 ++ G2, b ≠ pl := fun b hb zz => by
        obtain ⟨u, hu'⟩ := Pts.there pts b hb
        rw [zz, nl] at hu'; cases hu'
      refine for_list (K := X.K) (a := pl) (xs := xs1 ++ xs2) (fun k σ' H' => L2.wipe σ' [i] = L2.wipe σ [i] ∧ i < σ'.length ∧ H' pl = some (.lst (xs1 ++ xs2)) ∧ Rl X.K Hf H' (wipeE (η.set t .no) [i]) (L2.wipe σ [i]) ∧ Stp X.K np Hf H η σ Hf H' (wipeE (η.set t .no) [i]) (L2.wipe σ [i]) ∧
        ∃ G, Pts X.K Hf H' G ((xs1 ++ xs2).drop k) ((l1 ++ l2).drop k) ∧ (∀ b ∈ G, b ∈ G1 ++ G2) ∧ Fsh X.K Hf H η σ Hf H' (wipeE (η.set t .no) [i]) (L2.wipe σ [i]) G) ?_ ?_ ?_ ?_
      · refine ⟨rfl, ?_, upd_same, Rn, Sn, G1 ++ G2, ?_, fun b hb => hb, fun b hb => ⟨(fsw b hb).1, (fsw b hb).2.1, fun w => (fsw b hb).2.2 (Own.ofUpd Rw nfl nol w)⟩⟩
        · rw [← R.len]
          rcases Nat.lt_or_ge i η.length with w | w
          · exact w
          · rw [List.getElem?_eq_none_iff.mpr w] at hi; cases hi
        · exact pts.mono (.refl _) Rn.ex fun b hb u hu' => by rw [upd_ne (plG b hb)]; exact hu'
      · exact fun k σ' H' _ q => SqL.of q.2.2.1
      · rintro k xv σ' H' hk' ⟨ew, hil, hl, R', S', G, pk, sb, fs⟩
        have hkl : k < (xs1 ++ xs2).length := by
          rcases Nat.lt_or_ge k (xs1 ++ xs2).length with w | w
          · exact w
          · rw [List.getElem?_eq_none_iff.mpr w] at hk'; cases hk'
        have e1 : (xs1 ++ xs2).drop k = xv :: (xs1 ++ xs2).drop (k + 1) := by
          rw [List.drop_eq_getElem_cons hkl]
          rw [List.getElem?_eq_getElem hkl] at hk'
          cases hk'; rfl
        have hkl2 : k < (l1 ++ l2).length := by rw [hle]; exact hkl
        have e2 := List.drop_eq_getElem_cons hkl2
        rw [e1, e2] at pk
        obtain ⟨m, em, hm⟩ := kRow_ok (hrow _ (List.getElem_mem hkl2))
        rw [em] at pk
        obtain ⟨Fx, Gx, x1, ysr, rfl, exs, qx, rx, nx⟩ := pk.cons_inv
        cases exs
        obtain ⟨c, rfl, tx⟩ := qx.own_inv
        obtain ⟨F', ys, rfl, hcH, hkk, rr, nn⟩ := tx.dic_inv
        show sDPut _ _ _ _ _ _
        refine htv _ _ _ ⟨_, by rw [set_val hil, if_pos rfl], ?_⟩
        have hlen : ys.length = m.length := by
          have w := congrArg List.length hkk
          rw [List.length_map, List.length_map] at w; exact w
        refine ⟨c, _, rfl, DPut.k (k := .inr key) hcH (by rw [hlen]; exact fits_lt hm), ?_⟩
        have cG : c ∈ (c :: F') ++ Gx := List.mem_append_left _ (List.mem_cons_self ..)
        obtain ⟨f1, f2, f3⟩ := fs c cG
        have cne : c ≠ pl := plG c (sb c cG)
        have cnG : ∀ b ∈ Gx, b ≠ c := fun b hb zz => nx c (List.mem_cons_self ..) (by rw [← zz]; exact hb)
        refine ⟨by rw [← ew]; exact wipe_set (List.mem_singleton_self _), by rw [List.length_set]; exact hil, by rw [upd_ne (Ne.symm cne)]; exact hl, R'.updNew f2 f3, S'.updNw R' f2 f3 f1, Gx, ?_, fun b hb => sb b (List.mem_append_right _ hb), fun b hb => ?_⟩
        · exact rx.mono (.refl _) (R'.updNew f2 f3).ex fun b hb u hu' => by rw [upd_ne (cnG b hb)]; exact hu'
        · obtain ⟨w1, w2, w3⟩ := fs b (List.mem_append_right _ hb)
          exact ⟨w1, w2, fun w => w3 (Own.ofUpd R' f2 f3 w)⟩
      · rintro σ' H' ⟨ew, hil, hl, R', S', G, pk, sb, fs⟩
        rw [← ew] at R' S'
        obtain ⟨Ru, Su⟩ := Rl.unwipe (np := np) R'
        exact p Hf H' σ' Ru (S'.trans Su)
    · exact False.elim p
  · exact False.elim p
end
end D

namespace D
open PySem L2
section
variable {X : Cx} {W : WX} {np : Nat} {e : Expr} {pos p1 p2 p3 : Pos} {k : Nat} {ma : M Dat}
/-! ### l[::-1], max(a, b) -/
theorem Reps.rev {K : PySem.W.Frag} {H : Hp} : ∀ {l : List Dat} {xs : List V}, Reps K H l xs → Reps K H l.reverse xs.reverse
  | _, _, .nil => .nil
  | _, _, .cons h r => by rw [List.reverse_cons, List.reverse_cons]; exact r.rev.append (.cons h .nil)
noncomputable def dRevL : Dat → Option Dat
  | .lst l => some (.lst l.reverse)
  | _ => none
theorem do_revL (he : DE X W np e ma) : DO X W np (.Subscript e (.Slice none none (some (.UnaryOp .USub (.Constant (.int 1) k p1) p2)) p3) pos) (bnd ma fun d => lft (dRevL d)) := by
  refine PE.wk (pe_revL he) fun σ H Q ⟨Hf, η, R, p⟩ => ⟨Hf, η, R, p.bnd fun d Hf1 H1 η1 σ1 R1 S1 p1 e1 v rv => ?_⟩
  subst e1
  obtain ⟨z, hz, q⟩ := p1.lft R1
  unfold dRevL at hz
  split at hz
  · cases hz
    cases rv with
    | lst h1 h2 =>
      refine ⟨_, _, rfl, SqL.of (R1.ex _ _ h1), fun pa n => ?_⟩
      have o : OwnF X.K Hf1 (upd H1 pa (.lst (List.reverse _))) pa (.lst (List.reverse _)) := ⟨.lst upd_same h2.rev, nofun⟩
      obtain ⟨g1, g2, g3⟩ := ownNew R1 n (same_upd n) o
      exact q Hf1 _ g1 rfl pa (.inl (S1.nn pa n)) g2 o g3
  · cases hz
noncomputable def dMax2 : List Dat → Option Dat
  | [.int i, .int j] => some (.int (if j > i then j else i))
  | _ => none
theorem dMax2_ok {K : PySem.W.Frag} : OpC K (fun xs H Q => ∃ i j, xs = [.int i, .int j] ∧ Q (.int (if j > i then j else i)) H) dMax2 := by
  intro Hf H xs ds d e r h Q q
  unfold dMax2 at h
  split at h
  · cases h
    obtain ⟨v, u, rfl, r1, r2⟩ := r.two'
    cases r1; cases r2.int
    exact ⟨_, _, rfl, q _ Hf H (.refl e) .int⟩
  · cases h
end
/-! ### mirrors by their names -/
noncomputable abbrev callT (n : Nat) (F : M Sl) (dds : List Dat) (a : M (List Ai)) : M Dat := bnd a fun l => bnd (callF n F (l ++ dds.map .va)) fun r => lft (tRes r)
noncomputable abbrev rsN : M (List Dat) := D.ret []
noncomputable abbrev rsF (a : M Dat) (r : M (List Dat)) : M (List Dat) := bnd a fun d => bnd r fun l => D.ret (d :: l)
noncomputable abbrev rsT (a : M Dat) (r : M (List Dat)) : M (List Dat) := bnd a fun d => bnd r fun l => D.ret (.own d :: l)
noncomputable abbrev tupT (a : M (List Dat)) : M Dat := bnd a fun l => bnd (lft (fitL l)) fun l => D.ret (.tup l)
noncomputable abbrev lstT (a : M (List Dat)) : M Dat := bnd a fun l => bnd (lft (fitL l)) fun l => D.ret (.lst l)
noncomputable abbrev lcT (wi : M (List Dat)) (vs : List Nat) (f : Dat → M Unit) (mt : M Bool) (me : M Dat) : M Dat := bnd wi fun l => mLcT vs f mt me l
noncomputable abbrev sRetT (a : M Dat) : M Out := bnd a fun d => D.ret (.ro (.own d))
noncomputable abbrev sSetT (np i : Nat) (a : M Dat) : M Out := bnd a fun d => sSetO np i (.own d)
noncomputable abbrev revL (a : M Dat) : M Dat := bnd a fun d => lft (dRevL d)
end D

namespace D
open PySem L2
/-! ### new trees: what is wanted behind them -/
theorem wp_mLcT {vs : List Nat} {f : Dat → M Unit} {mt : M Bool} {me : M Dat} {P : Dat → En → Prop} {E : Xc → En → Prop} {η : En} {items : List Dat} (I : List Dat → List Dat → En → Prop) (hf : fits items.length = true)
    (hs : ∀ acc d ds η, I acc (d :: ds) η → Ev (f d) η (fun _ η1 => Ev mt η1 (fun k η2 => if k = true then Ev me η2 (fun y η3 => I (acc ++ [y]) ds (wipeE η3 vs)) NX else I acc ds (wipeE η2 vs)) NX) NX)
    (hd : ∀ acc η, I acc [] η → P (.lst (acc.map .own)) η) (h0 : I [] items (wipeE η vs)) : Ev (mLcT vs f mt me items) η P E := by
  unfold mLcT
  rw [if_pos hf, wp_bnd, wp_wipeM, wp_bnd]
  exact (wp_lcGo (Q := fun r η' => P (.lst (r.map .own)) η') I hs hd h0).mono (fun r η' q => wp_ret.mpr q) fun _ _ z => z
theorem wp_lcTMap {vs : List Nat} {f : Dat → M Unit} {me : M Dat} {P : Dat → En → Prop} {E : Xc → En → Prop} {η : En} {items : List Dat} (g : Dat → Dat) (hf : fits items.length = true)
    (hs : ∀ d, d ∈ items → Ev (f d) (wipeE η vs) (fun _ η1 => Ev me η1 (fun y η3 => y = g d ∧ wipeE η3 vs = wipeE η vs) NX) NX)
    (hd : P (.lst ((items.map g).map .own)) (wipeE η vs)) : Ev (mLcT vs f (D.ret true) me items) η P E := by
  refine wp_mLcT (fun acc ds η' => η' = wipeE η vs ∧ ∃ pre, items = pre ++ ds ∧ acc = pre.map g) hf (fun acc d ds η' ⟨h1, pre, h2, h3⟩ => ?_) (fun acc η' ⟨h1, pre, h2, h3⟩ => ?_) ⟨rfl, [], rfl, rfl⟩
  · subst h1
    refine (hs d (by rw [h2]; simp)).mono (fun _ η1 h => ?_) fun _ _ z => z
    refine wp_ret.mpr ?_
    show Ev me η1 _ NX
    refine h.mono (fun y η3 ⟨e1, e2⟩ => ?_) fun _ _ z => z
    refine ⟨e2, pre ++ [d], by rw [h2]; simp, ?_⟩
    rw [e1, h3, List.map_append]; rfl
  · rw [List.append_nil] at h2
    rw [h1, h3, ← h2]; exact hd
theorem wp_sKill {t i : Nat} {d : Dat} {s : Sl} {η : En} {P : Out → En → Prop} {E : Xc → En → Prop} (ht : η[t]? = some (.ow (.own d))) (hi : η[i]? = some s) (hk : kTwo d = true) (h : P .nx ((η.set t .no).set i .no)) : Ev (sKill t i) η P E := by
  unfold Ev sKill
  rw [ht, hi]
  simp only [hk, if_true]
  exact h
noncomputable def Nd (a b : Dat) : Prop := a = b
theorem Nd.rfl {a : Dat} : Nd a a := Eq.refl a
section
variable {α : Type} {η : En} {E : Xc → En → Prop} {P : α → En → Prop} {i : Nat} {d d' : Dat} {PD : Dat → En → Prop}
theorem w_varON {η' : En} (e : η[i]? = some (.ow d)) (h1 : Nd (dfr d) d') (h2 : η.set i (.fr d') = η') (h : PD d' η') : Ev (mVar i) η PD E := by
  have h1' : dfr d = d' := h1
  subst h1'; subst h2
  exact w_varO e h
theorem w_fitL {l : List Dat} {PL : List Dat → En → Prop} (hl : l.length ≤ 1000000) (h : PL l η) : Ev (lft (fitL l)) η PL E := w_lft (if_pos (decide_eq_true hl)) h
end
end D

namespace G
open PySem L2 D
noncomputable def top (i : Nat) : Stmt := PySem.Challenge.pw_logdelve_k52_what_changed_between_two_li.main.body.getD i (.Pass ⟨0, 0, 0, 0⟩)
noncomputable abbrev s_less : Stmt := top 1
noncomputable abbrev N_less : List Str := ["rows", "others", "rest", "found", "row"]
noncomputable abbrev s_turned_copy : Stmt := top 3
noncomputable abbrev N_turned_copy : List Str := ["rows", "row"]
noncomputable abbrev s_changed : Stmt := top 2
noncomputable abbrev N_changed : List Str := ["elder", "newer"]
noncomputable abbrev s_law_begin : Stmt := top 5
noncomputable abbrev N_law_begin : List Str := ["_law_script"]
noncomputable abbrev s_law_take : Stmt := top 6
noncomputable abbrev N_law_take : List Str := ["_law_draw", "_law_many", "_law_cell", "_law_digit", "_law_one"]
noncomputable abbrev s_law_row : Stmt := top 7
noncomputable abbrev N_law_row : List Str := ["_law_draw", "_law_found", "_law_name"]
noncomputable abbrev s_law_kinds_of : Stmt := top 8
noncomputable abbrev N_law_kinds_of : List Str := ["_law_rows", "_law_found", "_law_row_here"]
noncomputable abbrev s_law_more : Stmt := top 9
noncomputable abbrev N_law_more : List Str := ["_law_rows", "_law_others", "_law_told", "_law_row_here", "_law_rest"]
noncomputable abbrev s_law : Stmt := top 10
noncomputable abbrev N_law : List Str := ["_law_script", "_law_draw", "_law_turn", "_law_one", "_law_other", "_law_kept", "_law_again", "_law_told", "_law_row_here", "_law_step"]
/-! ### mirrors -/
noncomputable section
noncomputable def b_less : M Out :=
    (sq (sSetOE 2 2 (b1 dList2 (mPeek 1)))
    (sq (sSetOE 2 3 (lstD argN))
    (sq (sForE (wlk dIt (mVar 0)) (gSet 4) (ifS (t2 dInQ (mVar 4) (mPeek 2)) (sRem 2 (mVar 4)) (sApp 3 (mVar 4))))
    (sRetV 3))))
noncomputable def F_less : M Sl := mkF 5 b_less
noncomputable def b_turned_copy : M Out :=
    (sRetT (lcT (wlk dIt (mVar 0)) [1] (gSet 1) D.tYes (b1 dDict (mPeek 1))))
noncomputable def F_turned_copy : M Sl := mkF 2 b_turned_copy
noncomputable def b_changed : M Out :=
    (sRetT (tupT (rsT (callT 1 F_turned_copy [] (argV (callE 2 F_less [] (argV (mVar 0) (argV (mVar 1) argN))) argN)) (rsT (callT 1 F_turned_copy [] (argV (callE 2 F_less [] (argV (mVar 1) (argV (mVar 0) argN))) argN)) rsN))))
noncomputable def F_changed : M Sl := mkF 2 b_changed
noncomputable def b_law_begin : M Out :=
    (sRetO (lstD (argV (b1 dList2 (sl3 dCutL (mVar 0) noPrt (prt (cI 63)))) (argV (cI 0) (argV (cI 0) (argV (cI 41) argN))))))
noncomputable def F_law_begin : M Sl := mkF 1 b_law_begin
noncomputable def b_law_take : M Out :=
    (sq (ifS (andT (t2 dLt (ixv 0 (cI 2)) (mPeek 1)) (t2 dLt (ixv 0 (cI 1)) (b1 dLen (ixv 0 (cI 0))))) (sq (sSetE 2 (ix (ixv 0 (cI 0)) (ixv 0 (cI 1))))
    (sq (sPut 0 (m2 dAdd (ixv 0 (cI 1)) (cI 1)) (cI 1))
    (sq (sPut 0 (cI 0) (cI 2))
    (sq (ifS (t2 dGe (mVar 2) (m2 dPow (cI 10) (cI 18))) (sPut 0 (mVar 2) (cI 2)) sNx)
    (sPut 0 (m2 dMod (m2 dAdd (m2 dAdd (m2 dMul (ixv 0 (cI 3)) (cI 52711)) (m2 dMul (mVar 2) (cI 7))) (ixv 0 (cI 1))) (cI 2305843009213693951)) (cI 3)))))) sNx)
    (sq (ifS (t2 dGe (ixv 0 (cI 2)) (mPeek 1)) (sq (sSetE 3 (m2 dMod (ixv 0 (cI 2)) (mPeek 1)))
    (sq (sPut 0 (m2 dDiv (ixv 0 (cI 2)) (mPeek 1)) (cI 2))
    (sRetV 3))) sNx)
    (sq (sSetE 4 (m2 dMod (m2 dMul (ixv 0 (cI 3)) (ixv 0 (cI 3))) (cI 2305843009213693951)))
    (sq (sPut 0 (m2 dMod (m2 dAdd (m2 dAdd (m2 dMul (mVar 4) (cI 48271)) (m2 dMul (ixv 0 (cI 3)) (cI 16807))) (cI 12345)) (cI 2305843009213693951)) (cI 3))
    (sRet (m2 dMod (m2 dDiv (ixv 0 (cI 3)) (cI 1021)) (mPeek 1)))))))
noncomputable def F_law_take : M Sl := mkF 5 b_law_take
noncomputable def b_law_row : M Out :=
    (sq (sSetOE 1 1 (D.ret (.dic [])))
    (sq (sForE (wlk dIt (sl3 dCut (tupD (argV (cS "a") (argV (cS "b") argN))) noPrt (prt (m2 dAdd (cI 1) (callE 2 F_law_take [] (argI 0 (argV (cI 2) argN))))))) (gSet 2) (sDput 1 (callE 2 F_law_take [] (argI 0 (argV (cI 3) argN))) (mVar 2)))
    (sRetV 1)))
noncomputable def F_law_row : M Sl := mkF 3 b_law_row
noncomputable def b_law_kinds_of : M Out :=
    (sq (sSetOE 1 1 (lstD argN))
    (sq (sForE (wlk dIt (mVar 0)) (gSet 2) (ifS (t2 dNotInQ (mVar 2) (mPeek 1)) (sApp 1 (mVar 2)) sNx))
    (sRetV 1)))
noncomputable def F_law_kinds_of : M Sl := mkF 3 b_law_kinds_of
noncomputable def b_law_more : M Out :=
    (sq (ifS (notT (valT (b2 dIsi (mVar 2) (cT "list")))) (sRet (cB false)) sNx)
    (sq (sForE (wlk dIt (callE 1 F_law_kinds_of [] (argV (m2 dAdd (mVar 0) (mPeek 2)) argN))) (gSet 3) (ifS (t2 dNe (qryE dCntQ 2 (mVar 3)) (b2 dMax2 (cI 0) (m2 dSub (qryE dCntQ 0 (mVar 3)) (qryE dCntQ 1 (mVar 3))))) (sRet (cB false)) sNx))
    (sq (sSetOE 3 4 (b1 dList2 (mPeek 0)))
    (sq (sForE (wlk dIt (mVar 2)) (gSet 3) (sq (ifS (t2 dNotInQ (mVar 3) (mPeek 4)) (sRet (cB false)) sNx)
    (sSetOE 3 4 (sl3 dCutL (mVar 4) (prt (m2 dAdd (qryE dIdxQ 4 (mVar 3)) (cI 1))) noPrt))))
    (sRet (cB true))))))
noncomputable def F_law_more : M Sl := mkF 5 b_law_more
noncomputable def b_law : M Out :=
    (sq (sSetOE 1 1 (callO 1 F_law_begin [] (argV (mVar 0) argN)))
    (sq (sForE (wlk dItR (cI 6)) (gSet 2) (sq (sSetOE 1 3 (lcE (wlk dItR (callE 2 F_law_take [] (argI 1 (argV (cI 13) argN)))) [9] (gSet 9) D.tYes (callE 1 F_law_row [] (argI 1 argN))))
    (sq (sSetE 4 (m2 dAdd (lcE (wlk dIt (mVar 3)) [8] (gSet 8) (t2 dGt (callE 2 F_law_take [] (argI 1 (argV (cI 4) argN))) (cI 0)) (mVar 8)) (lcE (wlk dItR (callE 2 F_law_take [] (argI 1 (argV (cI 5) argN)))) [9] (gSet 9) D.tYes (callE 1 F_law_row [] (argI 1 argN)))))
    (sq (ifS (t2 dEq (callE 2 F_law_take [] (argI 1 (argV (cI 2) argN))) (cI 0)) (sSetOE 1 4 (revL (mVar 4))) sNx)
    (sq (sSetE 5 (b1 dRepr (lstD (argV (mVar 3) (argV (mVar 4) argN)))))
    (sForE (wlk dItR (cI 2)) (gSet 6) (sq (sSetT 1 7 (callT 2 F_changed [] (argV (mVar 3) (argV (mVar 4) argN))))
    (sq (ifS (lookT (orT (notT (valT (b2 dIsi (mVar 7) (cT "tuple")))) (t2 dNe (b1 dLen (mPeek 7)) (cI 2)))) (sRet (cB false)) sNx)
    (sq (ifS (lookT (orT (notT (valT (callE 3 F_law_more [] (argV (mVar 3) (argV (mVar 4) (argV (ixv 7 (cI 0)) argN)))))) (notT (valT (callE 3 F_law_more [] (argV (mVar 4) (argV (mVar 3) (argV (ixv 7 (cI 1)) argN)))))))) (sRet (cB false)) sNx)
    (sq (sKill 7 8)
    (ifS (t2 dNe (b1 dRepr (lstD (argV (mVar 3) (argV (mVar 4) argN)))) (mPeek 5)) (sRet (cB false)) sNx)))))))))))
    (sRet (cB true))))
noncomputable def F_law : M Sl := mkF 10 b_law
end
end G

namespace G
open PySem L2 D
/-! ### the end -/
noncomputable def D_less : He.DefD := ⟨("less", none), "less", "less", defArgs s_less, defBody s_less, defScope s_less, [], []⟩
noncomputable def D_turned_copy : He.DefD := ⟨("turned_copy", none), "turned_copy", "turned_copy", defArgs s_turned_copy, defBody s_turned_copy, defScope s_turned_copy, [], []⟩
noncomputable def D_changed : He.DefD := ⟨("changed", none), "changed", "changed", defArgs s_changed, defBody s_changed, defScope s_changed, [], []⟩
noncomputable def D_law_begin : He.DefD := ⟨("_law_begin", none), "_law_begin", "_law_begin", defArgs s_law_begin, defBody s_law_begin, defScope s_law_begin, [], []⟩
noncomputable def D_law_take : He.DefD := ⟨("_law_take", none), "_law_take", "_law_take", defArgs s_law_take, defBody s_law_take, defScope s_law_take, [], []⟩
noncomputable def D_law_row : He.DefD := ⟨("_law_row", none), "_law_row", "_law_row", defArgs s_law_row, defBody s_law_row, defScope s_law_row, [], []⟩
noncomputable def D_law_kinds_of : He.DefD := ⟨("_law_kinds_of", none), "_law_kinds_of", "_law_kinds_of", defArgs s_law_kinds_of, defBody s_law_kinds_of, defScope s_law_kinds_of, [], []⟩
noncomputable def D_law_more : He.DefD := ⟨("_law_more", none), "_law_more", "_law_more", defArgs s_law_more, defBody s_law_more, defScope s_law_more, [], []⟩
noncomputable def D_law : He.DefD := ⟨("law", none), "law", "law", defArgs s_law, defBody s_law, defScope s_law, [], []⟩
noncomputable def fnL : List He.DefD := [D_less, D_turned_copy, D_changed, D_law_begin, D_law_take, D_law_row, D_law_kinds_of, D_law_more, D_law]
noncomputable def tsL : List He.Tab := []
noncomputable def faL : List He.Fa := [.glo "less", .glo "turned_copy", .glo "changed", .glo "_law_begin", .glo "_law_take", .glo "_law_row", .glo "_law_kinds_of", .glo "_law_more", .glo "law", .free "dict", .free "isinstance", .free "len", .free "list", .free "max", .free "range", .free "repr", .free "tuple"]
noncomputable def exL (K : PySem.W.Frag) : Bool := true
noncomputable abbrev RowL : PySem.W.OpenRow := PySem.W.OpenLaw.row PySem.Challenge.rw_logdelve_k52_what_changed_between_two_li
noncomputable abbrev hkL : PySem.W.Hook := He.hookX 4 faL fnL tsL [] exL
noncomputable def obL (s : PySem.W.SharedT) : He.AlX := He.obsX 4 faL fnL tsL [] exL (HandSHeadRun.getT s)
theorem obL_eq (s : PySem.W.SharedT) : obL s = hkL.obs s.abs := He.obsX_eq (HandSHeadRun.getT_eq s)
noncomputable def looseL : List Str := ("less" : Str) :: ("changed" : Str) :: ("turned_copy" : Str) :: ("_law_begin" : Str) :: ("_law_take" : Str) :: ("_law_row" : Str) :: ("_law_kinds_of" : Str) :: ("_law_more" : Str) :: []
theorem runL (w : World) : HandSHeadRun.RunEq RowL (PySem.W.view RowL.prog [10]) hkL obL 3000 looseL w := by
  intro os
  kernel_rfl

end G

namespace G
open PySem L2 D
/-! ### what the top has written -/
structure Txt (w : World) (K : PySem.W.Frag) (mg : Str → Option Value) : Prop where
  n_dict : mg "dict" = none
  n_isinstance : mg "isinstance" = none
  n_len : mg "len" = none
  n_list : mg "list" = none
  n_max : mg "max" = none
  n_range : mg "range" = none
  n_repr : mg "repr" = none
  n_tuple : mg "tuple" = none
section
variable {P : Program} {w : World} {K : PySem.W.Frag} {mg : Str → Option Value} {base : Heap}
theorem sc_less : FnScope N_less ["rows", "others"] (defScope s_less) := ⟨rfl, rfl, rfl, by decide +kernel, rfl, by decide +kernel, by decide +kernel⟩
theorem ok_less (T : Txt w K mg)  {fd : FuncData} (F : FunD K "less" "less" (defArgs s_less) (defBody s_less) (defScope s_less) [] [] (He.ga K "less") fd) : FnOk P w K mg base (L2N.CX P w) 1 (He.ga K "less") fd ["rows", "others"] (spD K 2 F_less) := by
  refine fn_D (N := N_less) F sc_less (by decide) (fun cdv A outer s H E hr => ?_)
  have tk : L2N.Takes (cxOf (L2N.CX P w) P w K mg base N_less "less" (defScope s_less) (He.ga K "less") cdv A outer s H E) (fun cls d _ H => E cls d H) := L2N.takes_of rfl rfl rfl rfl
  exact (db_cons (ds_setO (i := 2) (fun h => ps_set (i := 2) sc_less.nd rfl (by first | exact Or.inl rfl | exact Or.inr rfl) h) (do_t1 (call_list2 rfl) dList2_ok (by rfl) T.n_list (by decide +kernel) (dp_var 1 (pv 1))))
      (db_cons (ds_setO (i := 3) (fun h => ps_set (i := 3) sc_less.nd rfl (by first | exact Or.inl rfl | exact Or.inr rfl) h) (do_lst da_nil))
      (db_cons (ds_for (passes_of rfl) rfl (di_any (de_var 0 (pv 0))) (dg_name (pg_name (i := 4) sc_less.nd rfl (by first | exact Or.inl rfl | exact Or.inr rfl))) (db_one (ds_if (dt_cmpE (op_inQ hr.units) dInQ_ok (de_var 4 (pv 4)) (dp_var 2 (pv 2)) (by rfl)) (db_one (ds_rem hr.units 2 (pv 2) (de_var 4 (pv 4)) (fun h => pe_bm PySem.F.plainAttrs_list PySem.F.slot_list_remove PySem.F.type_list_remove (mt_remQ hr.units) (pv 2) (pa_cons h pa_nil)))) (db_one (ds_app 3 (pv 3) (de_var 4 (pv 4)) (fun h => pe_bm PySem.F.plainAttrs_list PySem.F.slot_list_append PySem.F.type_list_append mt_append (pv 3) (pa_cons h pa_nil)))))))
      (db_one (ds_retV 3 (pv 3))))))
theorem sc_turned_copy : FnScope N_turned_copy ["rows"] (defScope s_turned_copy) := ⟨rfl, rfl, rfl, by decide +kernel, rfl, by decide +kernel, by decide +kernel⟩
theorem ok_turned_copy (T : Txt w K mg)  {fd : FuncData} (F : FunD K "turned_copy" "turned_copy" (defArgs s_turned_copy) (defBody s_turned_copy) (defScope s_turned_copy) [] [] (He.ga K "turned_copy") fd) : FnOk P w K mg base (L2N.CX P w) 1 (He.ga K "turned_copy") fd ["rows"] (spD K 1 F_turned_copy) := by
  refine fn_D (N := N_turned_copy) F sc_turned_copy (by decide) (fun cdv A outer s H E hr => ?_)
  have tk : L2N.Takes (cxOf (L2N.CX P w) P w K mg base N_turned_copy "turned_copy" (defScope s_turned_copy) (He.ga K "turned_copy") cdv A outer s H E) (fun cls d _ H => E cls d H) := L2N.takes_of rfl rfl rfl rfl
  exact (db_one (ds_retT (dr_lc (own := [("row", 1)]) rfl sc_turned_copy.nd (di_any (de_var 0 (pv 0))) (blkOk_by (own := [("row", 1)]) (N := N_turned_copy) (sc := defScope s_turned_copy) (by decide +kernel)) (fun _ _ _ _ _ => (dgw_name (pg_name (i := 1) sc_turned_copy.nd rfl (by first | exact Or.inl rfl | exact Or.inr rfl)) (by decide))) (fun _ _ _ _ _ => dts_nil) (fun _ _ _ _ _ => (dr_of (do_t1 (call_dict2 rfl) dDict_ok (by rfl) T.n_dict (by decide +kernel) (dp_var 1 (pv 1))))))))
theorem sc_changed : FnScope N_changed ["elder", "newer"] (defScope s_changed) := ⟨rfl, rfl, rfl, by decide +kernel, rfl, by decide +kernel, by decide +kernel⟩
theorem ok_changed (T : Txt w K mg) (h_less : Fn P w K mg base 1 "less" 2 [] F_less) (h_turned_copy : Fn P w K mg base 1 "turned_copy" 1 [] F_turned_copy) {fd : FuncData} (F : FunD K "changed" "changed" (defArgs s_changed) (defBody s_changed) (defScope s_changed) [] [] (He.ga K "changed") fd) : FnOk P w K mg base (L2N.CX P w) 2 (He.ga K "changed") fd ["elder", "newer"] (spD K 2 F_changed) := by
  refine fn_D (N := N_changed) F sc_changed (by decide) (fun cdv A outer s H E hr => ?_)
  have tk : L2N.Takes (cxOf (L2N.CX P w) P w K mg base N_changed "changed" (defScope s_changed) (He.ga K "changed") cdv A outer s H E) (fun cls d _ H => E cls d H) := L2N.takes_of rfl rfl rfl rfl
  exact (db_one (ds_retT (dr_tup (drs_tr (dr_fn h_turned_copy (hr.mono (by first | decide | omega)) (by rfl) tk (da_va (de_fn h_less (hr.mono (by first | decide | omega)) (by rfl) tk (da_va (de_var 0 (pv 0)) (da_va (de_var 1 (pv 1)) da_nil))) da_nil)) (drs_tr (dr_fn h_turned_copy (hr.mono (by first | decide | omega)) (by rfl) tk (da_va (de_fn h_less (hr.mono (by first | decide | omega)) (by rfl) tk (da_va (de_var 1 (pv 1)) (da_va (de_var 0 (pv 0)) da_nil))) da_nil)) drs_nil)))))
theorem sc_law_begin : FnScope N_law_begin ["_law_script"] (defScope s_law_begin) := ⟨rfl, rfl, rfl, by decide +kernel, rfl, by decide +kernel, by decide +kernel⟩
theorem ok_law_begin (T : Txt w K mg)  {fd : FuncData} (F : FunD K "_law_begin" "_law_begin" (defArgs s_law_begin) (defBody s_law_begin) (defScope s_law_begin) [] [] (He.ga K "_law_begin") fd) : FnOk P w K mg base (L2N.CX P w) 1 (He.ga K "_law_begin") fd ["_law_script"] (spD K 1 F_law_begin) := by
  refine fn_D (N := N_law_begin) F sc_law_begin (by decide) (fun cdv A outer s H E hr => ?_)
  have tk : L2N.Takes (cxOf (L2N.CX P w) P w K mg base N_law_begin "_law_begin" (defScope s_law_begin) (He.ga K "_law_begin") cdv A outer s H E) (fun cls d _ H => E cls d H) := L2N.takes_of rfl rfl rfl rfl
  exact (db_one (ds_retO (do_lst (da_va (de_of (do_t1 (call_list2 rfl) dList2_ok (by rfl) T.n_list (by decide +kernel) (dp (de_of (do_slL (de_var 0 (pv 0)) dpo_none (dpo_some de_int)))))) (da_va de_int (da_va de_int (da_va de_int da_nil)))))))
theorem sc_law_take : FnScope N_law_take ["_law_draw", "_law_many"] (defScope s_law_take) := ⟨rfl, rfl, rfl, by decide +kernel, rfl, by decide +kernel, by decide +kernel⟩
theorem ok_law_take (T : Txt w K mg)  {fd : FuncData} (F : FunD K "_law_take" "_law_take" (defArgs s_law_take) (defBody s_law_take) (defScope s_law_take) [] [] (He.ga K "_law_take") fd) : FnOk P w K mg base (L2N.CX P w) 1 (He.ga K "_law_take") fd ["_law_draw", "_law_many"] (spD K 2 F_law_take) := by
  refine fn_D (N := N_law_take) F sc_law_take (by decide) (fun cdv A outer s H E hr => ?_)
  have tk : L2N.Takes (cxOf (L2N.CX P w) P w K mg base N_law_take "_law_take" (defScope s_law_take) (He.ga K "_law_take") cdv A outer s H E) (fun cls d _ H => E cls d H) := L2N.takes_of rfl rfl rfl rfl
  exact (db_cons (ds_if (dt_w (dw_and (dt_cmp op_lt2 dLt_ok (de_ixv hr.units 0 (pv 0) de_int (fun _ _ => rfl)) (dp_var 1 (pv 1)) (nomark _)) (dw_and1 (dt_cmp op_lt2 dLt_ok (de_ixv hr.units 0 (pv 0) de_int (fun _ _ => rfl)) (dp (de_b1 call_len dLen_ok (by rfl) T.n_len (by decide +kernel) (dp (de_ixv hr.units 0 (pv 0) de_int (fun _ _ => rfl))))) (nomark _))))) (db_cons (ds_set (i := 2) (fun h => ps_set (i := 2) sc_law_take.nd rfl (by first | exact Or.inl rfl | exact Or.inr rfl) h) (de_ix hr.units (de_ixv hr.units 0 (pv 0) de_int (fun _ _ => rfl)) (de_ixv hr.units 0 (pv 0) de_int (fun _ _ => rfl)) (fun _ _ => rfl)))
      (db_cons (ds_put 0 (pv 0) (de_op op_add3 dAdd_ok (de_ixv hr.units 0 (pv 0) de_int (fun _ _ => rfl)) (dp de_int)) de_int set_list (fun h g => ps_asg h g) (fun a b c => pg_sub a b c))
      (db_cons (ds_put 0 (pv 0) de_int de_int set_list (fun h g => ps_asg h g) (fun a b c => pg_sub a b c))
      (db_cons (ds_if (dt_cmp op_ge2 dGe_ok (de_var 2 (pv 2)) (dp (de_op op_pow dPow_ok de_int (dp de_int))) (nomark _)) (db_one (ds_put 0 (pv 0) (de_var 2 (pv 2)) de_int set_list (fun h g => ps_asg h g) (fun a b c => pg_sub a b c))) db_nil)
      (db_one (ds_put 0 (pv 0) (de_op op_mod dMod_ok (de_op op_add3 dAdd_ok (de_op op_add3 dAdd_ok (de_op op_mul dMul_ok (de_ixv hr.units 0 (pv 0) de_int (fun _ _ => rfl)) (dp de_int)) (dp (de_op op_mul dMul_ok (de_var 2 (pv 2)) (dp de_int)))) (dp (de_ixv hr.units 0 (pv 0) de_int (fun _ _ => rfl)))) (dp de_int)) de_int set_list (fun h g => ps_asg h g) (fun a b c => pg_sub a b c))))))) db_nil)
      (db_cons (ds_if (dt_cmp op_ge2 dGe_ok (de_ixv hr.units 0 (pv 0) de_int (fun _ _ => rfl)) (dp_var 1 (pv 1)) (nomark _)) (db_cons (ds_set (i := 3) (fun h => ps_set (i := 3) sc_law_take.nd rfl (by first | exact Or.inl rfl | exact Or.inr rfl) h) (de_op op_mod dMod_ok (de_ixv hr.units 0 (pv 0) de_int (fun _ _ => rfl)) (dp_var 1 (pv 1))))
      (db_cons (ds_put 0 (pv 0) (de_op op_fdivW dDiv_ok (de_ixv hr.units 0 (pv 0) de_int (fun _ _ => rfl)) (dp_var 1 (pv 1))) de_int set_list (fun h g => ps_asg h g) (fun a b c => pg_sub a b c))
      (db_one (ds_retV 3 (pv 3))))) db_nil)
      (db_cons (ds_set (i := 4) (fun h => ps_set (i := 4) sc_law_take.nd rfl (by first | exact Or.inl rfl | exact Or.inr rfl) h) (de_op op_mod dMod_ok (de_op op_mul dMul_ok (de_ixv hr.units 0 (pv 0) de_int (fun _ _ => rfl)) (dp (de_ixv hr.units 0 (pv 0) de_int (fun _ _ => rfl)))) (dp de_int)))
      (db_cons (ds_put 0 (pv 0) (de_op op_mod dMod_ok (de_op op_add3 dAdd_ok (de_op op_add3 dAdd_ok (de_op op_mul dMul_ok (de_var 4 (pv 4)) (dp de_int)) (dp (de_op op_mul dMul_ok (de_ixv hr.units 0 (pv 0) de_int (fun _ _ => rfl)) (dp de_int)))) (dp de_int)) (dp de_int)) de_int set_list (fun h g => ps_asg h g) (fun a b c => pg_sub a b c))
      (db_one (ds_ret (de_op op_mod dMod_ok (de_op op_fdivW dDiv_ok (de_ixv hr.units 0 (pv 0) de_int (fun _ _ => rfl)) (dp de_int)) (dp_var 1 (pv 1)))))))))
theorem sc_law_row : FnScope N_law_row ["_law_draw"] (defScope s_law_row) := ⟨rfl, rfl, rfl, by decide +kernel, rfl, by decide +kernel, by decide +kernel⟩
theorem ok_law_row (T : Txt w K mg) (h_law_take : Fn P w K mg base 1 "_law_take" 2 [] F_law_take) {fd : FuncData} (F : FunD K "_law_row" "_law_row" (defArgs s_law_row) (defBody s_law_row) (defScope s_law_row) [] [] (He.ga K "_law_row") fd) : FnOk P w K mg base (L2N.CX P w) 2 (He.ga K "_law_row") fd ["_law_draw"] (spD K 1 F_law_row) := by
  refine fn_D (N := N_law_row) F sc_law_row (by decide) (fun cdv A outer s H E hr => ?_)
  have tk : L2N.Takes (cxOf (L2N.CX P w) P w K mg base N_law_row "_law_row" (defScope s_law_row) (He.ga K "_law_row") cdv A outer s H E) (fun cls d _ H => E cls d H) := L2N.takes_of rfl rfl rfl rfl
  exact (db_cons (ds_setO (i := 1) (fun h => ps_set (i := 1) sc_law_row.nd rfl (by first | exact Or.inl rfl | exact Or.inr rfl) h) do_disp0)
      (db_cons (ds_for (passes_of rfl) rfl (di_any (de_sl (de_tup (da_va de_str (da_va de_str da_nil))) dpo_none (dpo_some (de_op op_add3 dAdd_ok de_int (dp (de_fn h_law_take (hr.mono (by first | decide | omega)) (by rfl) tk (da_io 0 (pv 0) (da_va de_int da_nil)))))))) (dg_name (pg_name (i := 2) sc_law_row.nd rfl (by first | exact Or.inl rfl | exact Or.inr rfl))) (db_one (ds_dput hr.units 1 (pv 1) (de_fn h_law_take (hr.mono (by first | decide | omega)) (by rfl) tk (da_io 0 (pv 0) (da_va de_int da_nil))) (de_var 2 (pv 2)))))
      (db_one (ds_retV 1 (pv 1)))))
theorem sc_law_kinds_of : FnScope N_law_kinds_of ["_law_rows"] (defScope s_law_kinds_of) := ⟨rfl, rfl, rfl, by decide +kernel, rfl, by decide +kernel, by decide +kernel⟩
theorem ok_law_kinds_of (T : Txt w K mg)  {fd : FuncData} (F : FunD K "_law_kinds_of" "_law_kinds_of" (defArgs s_law_kinds_of) (defBody s_law_kinds_of) (defScope s_law_kinds_of) [] [] (He.ga K "_law_kinds_of") fd) : FnOk P w K mg base (L2N.CX P w) 1 (He.ga K "_law_kinds_of") fd ["_law_rows"] (spD K 1 F_law_kinds_of) := by
  refine fn_D (N := N_law_kinds_of) F sc_law_kinds_of (by decide) (fun cdv A outer s H E hr => ?_)
  have tk : L2N.Takes (cxOf (L2N.CX P w) P w K mg base N_law_kinds_of "_law_kinds_of" (defScope s_law_kinds_of) (He.ga K "_law_kinds_of") cdv A outer s H E) (fun cls d _ H => E cls d H) := L2N.takes_of rfl rfl rfl rfl
  exact (db_cons (ds_setO (i := 1) (fun h => ps_set (i := 1) sc_law_kinds_of.nd rfl (by first | exact Or.inl rfl | exact Or.inr rfl) h) (do_lst da_nil))
      (db_cons (ds_for (passes_of rfl) rfl (di_any (de_var 0 (pv 0))) (dg_name (pg_name (i := 2) sc_law_kinds_of.nd rfl (by first | exact Or.inl rfl | exact Or.inr rfl))) (db_one (ds_if (dt_cmpE (op_notInQ hr.units) dNotInQ_ok (de_var 2 (pv 2)) (dp_var 1 (pv 1)) (by rfl)) (db_one (ds_app 1 (pv 1) (de_var 2 (pv 2)) (fun h => pe_bm PySem.F.plainAttrs_list PySem.F.slot_list_append PySem.F.type_list_append mt_append (pv 1) (pa_cons h pa_nil)))) db_nil)))
      (db_one (ds_retV 1 (pv 1)))))
theorem sc_law_more : FnScope N_law_more ["_law_rows", "_law_others", "_law_told"] (defScope s_law_more) := ⟨rfl, rfl, rfl, by decide +kernel, rfl, by decide +kernel, by decide +kernel⟩
theorem ok_law_more (T : Txt w K mg) (h_law_kinds_of : Fn P w K mg base 1 "_law_kinds_of" 1 [] F_law_kinds_of) {fd : FuncData} (F : FunD K "_law_more" "_law_more" (defArgs s_law_more) (defBody s_law_more) (defScope s_law_more) [] [] (He.ga K "_law_more") fd) : FnOk P w K mg base (L2N.CX P w) 2 (He.ga K "_law_more") fd ["_law_rows", "_law_others", "_law_told"] (spD K 3 F_law_more) := by
  refine fn_D (N := N_law_more) F sc_law_more (by decide) (fun cdv A outer s H E hr => ?_)
  have tk : L2N.Takes (cxOf (L2N.CX P w) P w K mg base N_law_more "_law_more" (defScope s_law_more) (He.ga K "_law_more") cdv A outer s H E) (fun cls d _ H => E cls d H) := L2N.takes_of rfl rfl rfl rfl
  exact (db_cons (ds_if (dt_not (dt_val (dp (de_b2 call_isi3 dIsi_ok (by rfl) T.n_isinstance (by decide +kernel) (de_var 2 (pv 2)) (dp (de_ty T.n_list (by decide +kernel) (by rfl))))))) (db_one (ds_ret de_bl)) db_nil)
      (db_cons (ds_for (passes_of rfl) rfl (di_any (de_fn h_law_kinds_of (hr.mono (by first | decide | omega)) (by rfl) tk (da_va (de_op op_add3 dAdd_ok (de_var 0 (pv 0)) (dp_var 2 (pv 2))) da_nil))) (dg_name (pg_name (i := 3) sc_law_more.nd rfl (by first | exact Or.inl rfl | exact Or.inr rfl))) (db_one (ds_if (dt_cmp (op_ne2 hr.units) dNe_ok (de_cntQ hr.units 2 (pv 2) (de_var 3 (pv 3)) (fun h => pe_bm PySem.F.plainAttrs_list PySem.F.slot_list_count PySem.F.type_list_count (mt_cntQ hr.units) (pv 2) (pa_cons h pa_nil))) (dp (de_b2 (call_max2 rfl) dMax2_ok (by rfl) T.n_max (by decide +kernel) de_int (dp (de_op op_sub dSub_ok (de_cntQ hr.units 0 (pv 0) (de_var 3 (pv 3)) (fun h => pe_bm PySem.F.plainAttrs_list PySem.F.slot_list_count PySem.F.type_list_count (mt_cntQ hr.units) (pv 0) (pa_cons h pa_nil))) (dp (de_cntQ hr.units 1 (pv 1) (de_var 3 (pv 3)) (fun h => pe_bm PySem.F.plainAttrs_list PySem.F.slot_list_count PySem.F.type_list_count (mt_cntQ hr.units) (pv 1) (pa_cons h pa_nil)))))))) (nomark _)) (db_one (ds_ret de_bl)) db_nil)))
      (db_cons (ds_setO (i := 4) (fun h => ps_set (i := 4) sc_law_more.nd rfl (by first | exact Or.inl rfl | exact Or.inr rfl) h) (do_t1 (call_list2 rfl) dList2_ok (by rfl) T.n_list (by decide +kernel) (dp_var 0 (pv 0))))
      (db_cons (ds_for (passes_of rfl) rfl (di_any (de_var 2 (pv 2))) (dg_name (pg_name (i := 3) sc_law_more.nd rfl (by first | exact Or.inl rfl | exact Or.inr rfl))) (db_cons (ds_if (dt_cmpE (op_notInQ hr.units) dNotInQ_ok (de_var 3 (pv 3)) (dp_var 4 (pv 4)) (by rfl)) (db_one (ds_ret de_bl)) db_nil)
      (db_one (ds_setO (i := 4) (fun h => ps_set (i := 4) sc_law_more.nd rfl (by first | exact Or.inl rfl | exact Or.inr rfl) h) (do_slL (de_var 4 (pv 4)) (dpo_some (de_op op_add3 dAdd_ok (de_idxQ hr.units 4 (pv 4) (de_var 3 (pv 3)) (fun h => pe_bm PySem.F.plainAttrs_list PySem.F.slot_list_index PySem.F.type_list_index (mt_idxQ hr.units) (pv 4) (pa_cons h pa_nil))) (dp de_int))) dpo_none)))))
      (db_one (ds_ret de_bl))))))
theorem sc_law : FnScope N_law ["_law_script"] (defScope s_law) := ⟨rfl, rfl, rfl, by decide +kernel, rfl, by decide +kernel, by decide +kernel⟩
theorem ok_law (T : Txt w K mg) (h_law_begin : Fn P w K mg base 1 "_law_begin" 1 [] F_law_begin) (h_law_take : Fn P w K mg base 1 "_law_take" 2 [] F_law_take) (h_law_row : Fn P w K mg base 2 "_law_row" 1 [] F_law_row) (h_changed : Fn P w K mg base 2 "changed" 2 [] F_changed) (h_law_more : Fn P w K mg base 2 "_law_more" 3 [] F_law_more) {fd : FuncData} (F : FunD K "law" "law" (defArgs s_law) (defBody s_law) (defScope s_law) [] [] (He.ga K "law") fd) : RunG P w K mg base (He.ga K "law") fd "_law_script" (spD K 1 F_law) := by
  refine fn_G (N := N_law) (k := 2) F sc_law (by decide) ⟨rfl, by decide, by decide⟩ (fun cdv outer s H E hr hgd => ?_)
  have tk : L2N.Takes (cxOf (L2N.CX P w) P w K mg base N_law "law" (defScope s_law) (He.ga K "law") cdv PySem.callerA outer s H E) (fun cls d _ H => E cls d H) := L2N.takes_of rfl rfl rfl rfl
  exact (db_cons (ds_setO (i := 1) (fun h => ps_set (i := 1) sc_law.nd rfl (by first | exact Or.inl rfl | exact Or.inr rfl) h) (do_fn h_law_begin (hr.mono (by first | decide | omega)) (by rfl) tk (da_va (de_var 0 (pv 0)) da_nil)))
      (db_cons (ds_for (passes_of rfl) rfl (di_range (by rfl) T.n_range de_int) (dg_name (pg_name (i := 2) sc_law.nd rfl (by first | exact Or.inl rfl | exact Or.inr rfl))) (db_cons (ds_lc (i := 3) (own := [("_law_step", 9)]) rfl sc_law.nd rfl rfl (sw_true rfl rfl rfl (by decide +kernel)) (di_range (by rfl) T.n_range (de_fn h_law_take (hr.mono (by first | decide | omega)) (by rfl) tk (da_io 1 (pv 1) (da_va de_int da_nil)))) (blkOk_by (own := [("_law_step", 9)]) (N := N_law) (sc := defScope s_law) (by decide +kernel)) (fun _ _ _ _ _ => (dgw_name (pg_name (i := 9) sc_law.nd rfl (by first | exact Or.inl rfl | exact Or.inr rfl)) (by decide))) (fun _ _ _ _ _ => dts_nil) (fun _ _ _ _ _ => (de_fn h_law_row (hr.mono (by first | decide | omega)) (by rfl) takes0 (da_io 1 (pv 1) da_nil))))
      (db_cons (ds_set (i := 4) (fun h => ps_set (i := 4) sc_law.nd rfl (by first | exact Or.inl rfl | exact Or.inr rfl) h) (de_op op_add3 dAdd_ok (de_of (do_lc (own := [("_law_row_here", 8)]) rfl sc_law.nd (di_any (de_var 3 (pv 3))) (blkOk_by (own := [("_law_row_here", 8)]) (N := N_law) (sc := defScope s_law) (by decide +kernel)) (fun _ _ _ _ _ => (dgw_name (pg_name (i := 8) sc_law.nd rfl (by first | exact Or.inl rfl | exact Or.inr rfl)) (by decide))) (fun _ _ _ _ _ => (dts_one (dt_cmp op_gt2 dGt_ok (de_fn h_law_take (hr.mono (by first | decide | omega)) (by rfl) takes0 (da_io 1 (pv 1) (da_va de_int da_nil))) (dp de_int) (nomark _)))) (fun _ _ _ _ _ => (de_var 8 (pv 8))))) (dp (de_of (do_lc (own := [("_law_step", 9)]) rfl sc_law.nd (di_range (by rfl) T.n_range (de_fn h_law_take (hr.mono (by first | decide | omega)) (by rfl) tk (da_io 1 (pv 1) (da_va de_int da_nil)))) (blkOk_by (own := [("_law_step", 9)]) (N := N_law) (sc := defScope s_law) (by decide +kernel)) (fun _ _ _ _ _ => (dgw_name (pg_name (i := 9) sc_law.nd rfl (by first | exact Or.inl rfl | exact Or.inr rfl)) (by decide))) (fun _ _ _ _ _ => dts_nil) (fun _ _ _ _ _ => (de_fn h_law_row (hr.mono (by first | decide | omega)) (by rfl) takes0 (da_io 1 (pv 1) da_nil))))))))
      (db_cons (ds_if (dt_cmp (op_eq2 hr.units) dEq_ok (de_fn h_law_take (hr.mono (by first | decide | omega)) (by rfl) tk (da_io 1 (pv 1) (da_va de_int da_nil))) (dp de_int) (nomark _)) (db_one (ds_setO (i := 4) (fun h => ps_set (i := 4) sc_law.nd rfl (by first | exact Or.inl rfl | exact Or.inr rfl) h) (do_revL (de_var 4 (pv 4))))) db_nil)
      (db_cons (ds_set (i := 5) (fun h => ps_set (i := 5) sc_law.nd rfl (by first | exact Or.inl rfl | exact Or.inr rfl) h) (de_b1 (cr_repr hgd hr.units) dRepr_ok (by rfl) T.n_repr (by decide +kernel) (dp (de_of (do_lst (da_va (de_var 3 (pv 3)) (da_va (de_var 4 (pv 4)) da_nil)))))))
      (db_one (ds_for (passes_of rfl) rfl (di_range (by rfl) T.n_range de_int) (dg_name (pg_name (i := 6) sc_law.nd rfl (by first | exact Or.inl rfl | exact Or.inr rfl))) (db_cons (ds_setT (i := 7) (fun h => ps_set (i := 7) sc_law.nd rfl (by first | exact Or.inl rfl | exact Or.inr rfl) h) (dr_fn h_changed (hr.mono (by first | decide | omega)) (by rfl) tk (da_va (de_var 3 (pv 3)) (da_va (de_var 4 (pv 4)) da_nil))))
      (db_cons (ds_if (dt_look (dt_w (dw_or (dt_not (dt_val (dp (de_b2 call_isi3 dIsi_ok (by rfl) T.n_isinstance (by decide +kernel) (de_var 7 (pv 7)) (dp (de_ty T.n_tuple (by decide +kernel) (by rfl))))))) (dw_or1 (dt_cmp (op_ne2 hr.units) dNe_ok (de_b1 call_len dLen_ok (by rfl) T.n_len (by decide +kernel) (dp_var 7 (pv 7))) (dp de_int) (nomark _)))))) (db_one (ds_ret de_bl)) db_nil)
      (db_cons (ds_if (dt_look (dt_w (dw_or (dt_not (dt_val (dp (de_fn h_law_more (hr.mono (by first | decide | omega)) (by rfl) tk (da_va (de_var 3 (pv 3)) (da_va (de_var 4 (pv 4)) (da_va (de_ixv hr.units 7 (pv 7) de_int (fun _ _ => rfl)) da_nil))))))) (dw_or1 (dt_not (dt_val (dp (de_fn h_law_more (hr.mono (by first | decide | omega)) (by rfl) tk (da_va (de_var 4 (pv 4)) (da_va (de_var 3 (pv 3)) (da_va (de_ixv hr.units 7 (pv 7) de_int (fun _ _ => rfl)) da_nil))))))))))) (db_one (ds_ret de_bl)) db_nil)
      (db_cons (ds_kill (t := 7) (i := 8) (z := 0 - 5) hr.units (passes_of rfl) rfl (pv 7) (pv 7) (pg_name (i := 8) sc_law.nd rfl (by first | exact Or.inl rfl | exact Or.inr rfl)) (pv 8) (pe_op op_sub pe_int pe_int) (fun _ _ _ q => ⟨0, 5, rfl, rfl, q⟩) (by decide))
      (db_one (ds_if (dt_cmp (op_ne2 hr.units) dNe_ok (de_b1 (cr_repr hgd hr.units) dRepr_ok (by rfl) T.n_repr (by decide +kernel) (dp (de_of (do_lst (da_va (de_var 3 (pv 3)) (da_va (de_var 4 (pv 4)) da_nil)))))) (dp_var 5 (pv 5)) (nomark _)) (db_one (ds_ret de_bl)) db_nil)))))))))))))
      (db_one (ds_ret de_bl))))
end
end G

namespace G
open PySem L2 D
theorem pb_nil {as : List Sl} {η : En} : putBack [] as η = η := rfl
theorem pb_va {d : Dat} {l : List Ai} {x : Sl} {s : List Sl} {η : En} : putBack (.va d :: l) (x :: s) η = putBack l s η := rfl
theorem pb_io {i : Nat} {l : List Ai} {x : Sl} {s : List Sl} {η : En} : putBack (.io i :: l) (x :: s) η = (putBack l s η).set i x := rfl
theorem w_decT {α : Type} {η : En} {E : Xc → En → Prop} {P : α → En → Prop} {p : Prop} [Decidable p] {m1 m2 : M α} (h : p) (h1 : Ev m1 η P E) : Ev (if decide p = true then m1 else m2) η P E := by
  rw [decide_eq_true h]; exact h1
theorem w_decF {α : Type} {η : En} {E : Xc → En → Prop} {P : α → En → Prop} {p : Prop} [Decidable p] {m1 m2 : M α} (h : ¬ p) (h1 : Ev m2 η P E) : Ev (if decide p = true then m1 else m2) η P E := by
  rw [decide_eq_false h]; exact h1
theorem w_gstar1 {η : En} {E : Xc → En → Prop} {PU : Unit → En → Prop} {f : List Dat → M Unit} {a : Dat} {ps : List Dat} (h : Ev (f [a, .lst ps]) η PU E) : Ev (gStar' 1 f (.tup (a :: ps))) η PU E := h

/-- the same environment, told plainly -/
noncomputable def Nm (a b : En) : Prop := a = b
theorem Nm.rfl {a : En} : Nm a a := Eq.refl a
theorem w_pb {α : Type} {η η' : En} {E : Xc → En → Prop} {P : α → En → Prop} {m : M α} {its : List Ai} {as : En} (e : Nm (putBack its as η) η') (h : Ev m η' P E) : Ev m (putBack its as η) P E := by
  have e' : putBack its as η = η' := e
  rw [e']; exact h
theorem w_app0 {α : Type} {η η' : En} {E : Xc → En → Prop} {P : α → En → Prop} {m : M α} {k : Nat} (e : Nm (η ++ List.replicate k .no) η') (h : Ev m η' P E) : Ev m (η ++ List.replicate k .no) P E := by
  have e' : η ++ List.replicate k .no = η' := e
  rw [e']; exact h
theorem w_wipe {α : Type} {η η' : En} {E : Xc → En → Prop} {P : α → En → Prop} {m : M α} {vs : List Nat} (e : Nm (wipeE η vs) η') (h : Ev m η' P E) : Ev m (wipeE η vs) P E := by
  have e' : wipeE η vs = η' := e
  rw [e']; exact h
theorem w_callN {η as : En} {E : Xc → En → Prop} {PS : Sl → En → Prop} {n : Nat} {F : M Sl} {its : List Ai} (hn : decide (ios its).Nodup = true) (hl : its.length = n) (e : Nm (argS η its) as) (h : Ev F as (fun r as' => PS r (putBack its as' η)) (fun x as' => E x (putBack its as' η))) : Ev (callF n F its) η PS E := by
  have e' : argS η its = as := e
  subst e'
  exact wp_callF.mpr ⟨⟨of_decide_eq_true hn, hl⟩, h⟩
section
variable {η η' : En} {E : Xc → En → Prop} {i np : Nat} {d : Dat} {PO : Out → En → Prop} {PU : Unit → En → Prop}
theorem w_setN (e : Nm (η.set i (.fr d)) η') (h : PO .nx η') : Ev (sSet i d) η PO E := w_set e h
theorem w_gsetN (e : Nm (η.set i (.fr d)) η') (h : PU () η') : Ev (gSet i d) η PU E := w_gset e h
theorem w_setON (hi : ¬ i < np) (e : Nm (η.set i (.ow d)) η') (h : PO .nx η') : Ev (sSetO np i d) η PO E := w_setO hi e h
theorem w_retVON (e : η[i]? = some (.ow d)) (e2 : Nm (η.set i .no) η') (h : PO (.ro d) η') : Ev (sRetV i) η PO E := w_retVO e e2 h
theorem w_owSetN {f : Dat → Option Dat} {d' : Dat} (e : η[i]? = some (.ow d)) (ef : f d = some d') (e2 : Nm (η.set i (.ow d')) η') (h : PU () η') : Ev (owSet i f) η PU E := w_owSet e ef e2 h
end
theorem w_isArr {η : En} {E : Xc → En → Prop} {PA : List Ai → En → Prop} {n q : Nat} {g : {α : Type} → List α → List α → List α → List α} {dds : List Dat} {its kits : List Ai} (h : Ev (lft (arr2 n q g dds its kits)) η PA E) : Ev (lft (arr2 n q g dds its kits)) η PA E := h
/-! two steps at once -/
section
variable {α β : Type} {η : En} {E : Xc → En → Prop} {P : α → En → Prop} {i : Nat} {d : Dat}
theorem w_bvar {f : Dat → M α} (e : η[i]? = some (.fr d)) (h : Ev (f d) η P E) : Ev (bnd (mVar i) f) η P E := w_bnd (w_var e h)
theorem w_bpeek {f : Dat → M α} (e : η[i]? = some (.fr d)) (h : Ev (f d) η P E) : Ev (bnd (mPeek i) f) η P E := w_bnd (w_peek e h)
theorem w_bpeekO {f : Dat → M α} (e : η[i]? = some (.ow d)) (h : Ev (f d) η P E) : Ev (bnd (mPeek i) f) η P E := w_bnd (w_peekO e h)
theorem w_bret {a : β} {f : β → M α} (h : Ev (f a) η P E) : Ev (bnd (D.ret a) f) η P E := w_bnd (w_ret h)
end

local macro_rules | `(tactic| fail "isj") => `(tactic| with_reducible refine w_lft isi_non_is ?_)
local macro_rules | `(tactic| fail "isj") => `(tactic| with_reducible refine w_lft isi_non_dict ?_)
local macro_rules | `(tactic| fail "isj") => `(tactic| with_reducible refine w_lft isi_non_tuple ?_)
local macro_rules | `(tactic| fail "isj") => `(tactic| with_reducible refine w_lft isi_non_list ?_)
local macro_rules | `(tactic| fail "isj") => `(tactic| with_reducible refine w_lft isi_non_str ?_)
local macro_rules | `(tactic| fail "isj") => `(tactic| with_reducible refine w_lft isi_non_int ?_)
local macro_rules | `(tactic| fail "isj") => `(tactic| with_reducible refine w_lft isi_non_bool ?_)
local macro_rules | `(tactic| fail "isj") => `(tactic| with_reducible refine w_lft isi_dic_is ?_)
local macro_rules | `(tactic| fail "isj") => `(tactic| with_reducible refine w_lft isi_dic_dict ?_)
local macro_rules | `(tactic| fail "isj") => `(tactic| with_reducible refine w_lft isi_dic_tuple ?_)
local macro_rules | `(tactic| fail "isj") => `(tactic| with_reducible refine w_lft isi_dic_list ?_)
local macro_rules | `(tactic| fail "isj") => `(tactic| with_reducible refine w_lft isi_dic_str ?_)
local macro_rules | `(tactic| fail "isj") => `(tactic| with_reducible refine w_lft isi_dic_int ?_)
local macro_rules | `(tactic| fail "isj") => `(tactic| with_reducible refine w_lft isi_dic_bool ?_)
local macro_rules | `(tactic| fail "isj") => `(tactic| with_reducible refine w_lft isi_tup_is ?_)
local macro_rules | `(tactic| fail "isj") => `(tactic| with_reducible refine w_lft isi_tup_dict ?_)
local macro_rules | `(tactic| fail "isj") => `(tactic| with_reducible refine w_lft isi_tup_tuple ?_)
local macro_rules | `(tactic| fail "isj") => `(tactic| with_reducible refine w_lft isi_tup_list ?_)
local macro_rules | `(tactic| fail "isj") => `(tactic| with_reducible refine w_lft isi_tup_str ?_)
local macro_rules | `(tactic| fail "isj") => `(tactic| with_reducible refine w_lft isi_tup_int ?_)
local macro_rules | `(tactic| fail "isj") => `(tactic| with_reducible refine w_lft isi_tup_bool ?_)
local macro_rules | `(tactic| fail "isj") => `(tactic| with_reducible refine w_lft isi_lst_is ?_)
local macro_rules | `(tactic| fail "isj") => `(tactic| with_reducible refine w_lft isi_lst_dict ?_)
local macro_rules | `(tactic| fail "isj") => `(tactic| with_reducible refine w_lft isi_lst_tuple ?_)
local macro_rules | `(tactic| fail "isj") => `(tactic| with_reducible refine w_lft isi_lst_list ?_)
local macro_rules | `(tactic| fail "isj") => `(tactic| with_reducible refine w_lft isi_lst_str ?_)
local macro_rules | `(tactic| fail "isj") => `(tactic| with_reducible refine w_lft isi_lst_int ?_)
local macro_rules | `(tactic| fail "isj") => `(tactic| with_reducible refine w_lft isi_lst_bool ?_)
local macro_rules | `(tactic| fail "isj") => `(tactic| with_reducible refine w_lft isi_bl_is ?_)
local macro_rules | `(tactic| fail "isj") => `(tactic| with_reducible refine w_lft isi_bl_dict ?_)
local macro_rules | `(tactic| fail "isj") => `(tactic| with_reducible refine w_lft isi_bl_tuple ?_)
local macro_rules | `(tactic| fail "isj") => `(tactic| with_reducible refine w_lft isi_bl_list ?_)
local macro_rules | `(tactic| fail "isj") => `(tactic| with_reducible refine w_lft isi_bl_str ?_)
local macro_rules | `(tactic| fail "isj") => `(tactic| with_reducible refine w_lft isi_bl_int ?_)
local macro_rules | `(tactic| fail "isj") => `(tactic| with_reducible refine w_lft isi_bl_bool ?_)
local macro_rules | `(tactic| fail "isj") => `(tactic| with_reducible refine w_lft isi_int_is ?_)
local macro_rules | `(tactic| fail "isj") => `(tactic| with_reducible refine w_lft isi_int_dict ?_)
local macro_rules | `(tactic| fail "isj") => `(tactic| with_reducible refine w_lft isi_int_tuple ?_)
local macro_rules | `(tactic| fail "isj") => `(tactic| with_reducible refine w_lft isi_int_list ?_)
local macro_rules | `(tactic| fail "isj") => `(tactic| with_reducible refine w_lft isi_int_str ?_)
local macro_rules | `(tactic| fail "isj") => `(tactic| with_reducible refine w_lft isi_int_int ?_)
local macro_rules | `(tactic| fail "isj") => `(tactic| with_reducible refine w_lft isi_int_bool ?_)
local macro_rules | `(tactic| fail "isj") => `(tactic| with_reducible refine w_lft isi_str_is ?_)
local macro_rules | `(tactic| fail "isj") => `(tactic| with_reducible refine w_lft isi_str_dict ?_)
local macro_rules | `(tactic| fail "isj") => `(tactic| with_reducible refine w_lft isi_str_tuple ?_)
local macro_rules | `(tactic| fail "isj") => `(tactic| with_reducible refine w_lft isi_str_list ?_)
local macro_rules | `(tactic| fail "isj") => `(tactic| with_reducible refine w_lft isi_str_str ?_)
local macro_rules | `(tactic| fail "isj") => `(tactic| with_reducible refine w_lft isi_str_int ?_)
local macro_rules | `(tactic| fail "isj") => `(tactic| with_reducible refine w_lft isi_str_bool ?_)
local macro_rules | `(tactic| fail "isi") => `(tactic| (with_reducible refine w_isIsi ?_; fail "isj"))
local macro_rules | `(tactic| fail "nm") => `(tactic| ((try dsimp only [pb_nil, pb_va, pb_io, wipeE, argS, List.map, List.append_nil, List.cons_append, List.nil_append, List.set_cons_zero, List.set_cons_succ, List.length_cons, List.length_nil, List.replicate_succ, List.replicate_zero, Nat.reduceAdd, Nat.reduceSub, Option.getD_some, List.getElem?_cons_zero, List.getElem?_cons_succ]); (exact Nm.rfl)))
local macro_rules | `(tactic| fail "s1") => `(tactic| ((fail_if_success (with_reducible refine w_isSorted ?_)); (fail_if_success (with_reducible refine w_isDict ?_)); (fail_if_success (with_reducible refine w_isToStr ?_)); (fail_if_success (with_reducible refine w_isIn ?_)); (fail_if_success (with_reducible refine w_isNotIn ?_)); (fail_if_success (with_reducible refine w_isArr ?_)); with_reducible refine w_lft rfl ?_))
local macro_rules | `(tactic| fail "s1") => `(tactic| (fail "isi"))
local macro_rules | `(tactic| fail "s1") => `(tactic| (with_reducible refine w_lenS ?c ?_; (case c => omega)))
local macro_rules | `(tactic| fail "s1") => `(tactic| (with_reducible refine w_addS ?c ?_; (case c => (simp only [Str.length_append]; omega))))
local macro_rules | `(tactic| fail "s1") => `(tactic| (with_reducible refine w_div ?c ?_; (case c => (constructor <;> omega))))
local macro_rules | `(tactic| fail "s1") => `(tactic| (with_reducible refine w_mul ?c ?_; (case c => (unfold CMul; omega))))
local macro_rules | `(tactic| fail "s1") => `(tactic| (with_reducible refine w_mod ?c (fun _ _ _ => ?_); (case c => first | decide | assumption | omega)))
local macro_rules | `(tactic| fail "s1") => `(tactic| (with_reducible refine w_fin_nx rfl ?_))
local macro_rules | `(tactic| fail "s1") => `(tactic| (with_reducible refine w_fin_ro rfl ?_))
local macro_rules | `(tactic| fail "s1") => `(tactic| (with_reducible refine w_fin_rt rfl ?_))
local macro_rules | `(tactic| fail "s1") => `(tactic| (with_reducible refine w_propF ?_))
local macro_rules | `(tactic| fail "s1") => `(tactic| (with_reducible refine w_propT ?_))
local macro_rules | `(tactic| fail "s1") => `(tactic| (with_reducible refine w_FT ?_))
local macro_rules | `(tactic| fail "s1") => `(tactic| (with_reducible refine w_TF ?_))
local macro_rules | `(tactic| fail "s1") => `(tactic| (with_reducible refine w_same ?_))
local macro_rules | `(tactic| fail "s1") => `(tactic| (with_reducible refine w_lookT ?_))
local macro_rules | `(tactic| fail "s1") => `(tactic| (with_reducible refine w_retV rfl ?_))
local macro_rules | `(tactic| fail "s1") => `(tactic| (with_reducible refine w_gnil ?_))
local macro_rules | `(tactic| fail "s1") => `(tactic| (with_reducible refine w_gcons ?_))
local macro_rules | `(tactic| fail "s1") => `(tactic| (with_reducible refine w_gtup ?_))
local macro_rules | `(tactic| fail "s1") => `(tactic| (with_reducible refine w_owSetN (η' := ?_) rfl rfl ?_ ?_; rotate_left; focus (fail "nm")))
local macro_rules | `(tactic| fail "s1") => `(tactic| (with_reducible refine w_retVON (η' := ?_) rfl ?_ ?_; rotate_left; focus (fail "nm")))
local macro_rules | `(tactic| fail "s1") => `(tactic| (with_reducible refine w_wipe (η' := ?_) ?_ ?_; rotate_left; focus (fail "nm")))
local macro_rules | `(tactic| fail "s1") => `(tactic| (with_reducible refine w_app0 (η' := ?_) ?_ ?_; rotate_left; focus (fail "nm")))
local macro_rules | `(tactic| fail "s1") => `(tactic| (with_reducible refine w_not ?_))
local macro_rules | `(tactic| fail "s1") => `(tactic| (with_reducible refine w_ifF ?_))
local macro_rules | `(tactic| fail "s1") => `(tactic| (with_reducible refine w_ifT ?_))
local macro_rules | `(tactic| fail "s1") => `(tactic| (with_reducible refine w_setON (η' := ?_) (by decide) ?_ ?_; rotate_left; focus (fail "nm")))
local macro_rules | `(tactic| fail "s1") => `(tactic| (with_reducible refine w_gsetN (η' := ?_) ?_ ?_; rotate_left; focus (fail "nm")))
local macro_rules | `(tactic| fail "s1") => `(tactic| (with_reducible refine w_setN (η' := ?_) ?_ ?_; rotate_left; focus (fail "nm")))
local macro_rules | `(tactic| fail "s1") => `(tactic| (with_reducible refine w_varO rfl ?_))
local macro_rules | `(tactic| fail "s1") => `(tactic| (with_reducible refine w_peekO rfl ?_))
local macro_rules | `(tactic| fail "s1") => `(tactic| (with_reducible refine w_peek rfl ?_))
local macro_rules | `(tactic| fail "s1") => `(tactic| (with_reducible refine w_var rfl ?_))
local macro_rules | `(tactic| fail "s1") => `(tactic| (with_reducible refine w_ret ?_))
local macro_rules | `(tactic| fail "s1") => `(tactic| (with_reducible refine w_callN (as := ?_) rfl rfl ?_ ?_; rotate_left; focus (fail "nm")))
local macro_rules | `(tactic| fail "s1") => `(tactic| (with_reducible refine w_pb (η' := ?_) ?_ ?_; rotate_left; focus (fail "nm")))
local macro_rules | `(tactic| fail "s1") => `(tactic| (with_reducible refine w_bpeekO rfl ?_))
local macro_rules | `(tactic| fail "s1") => `(tactic| (with_reducible refine w_bpeek rfl ?_))
local macro_rules | `(tactic| fail "s1") => `(tactic| (with_reducible refine w_sq ?_))
local macro_rules | `(tactic| fail "s1") => `(tactic| (with_reducible refine w_bnd ?_))
local macro_rules | `(tactic| fail "s1") => `(tactic| (with_reducible refine w_bret ?_))
local macro_rules | `(tactic| fail "s1") => `(tactic| (with_reducible refine w_bvar rfl ?_))
local macro_rules | `(tactic| fail "st") => `(tactic| repeat (fail "s1"))

local macro_rules | `(tactic| fail "lit1") => `(tactic| (with_reducible refine w_isIn ?_; with_reducible refine w_lft (a := false) (by decide +kernel) ?_))
local macro_rules | `(tactic| fail "lit1") => `(tactic| (with_reducible refine w_isIn ?_; with_reducible refine w_lft (a := true) (by decide +kernel) ?_))
local macro_rules | `(tactic| fail "lit1") => `(tactic| (with_reducible refine w_gstar1 ?_))
local macro_rules | `(tactic| fail "lit1") => `(tactic| (with_reducible refine w_decF (by decide +kernel) ?_))
local macro_rules | `(tactic| fail "lit1") => `(tactic| (with_reducible refine w_decT (by decide +kernel) ?_))
local macro_rules | `(tactic| fail "lit") => `(tactic| (fail "st"; repeat (fail "lit1"; fail "st")))

noncomputable def Drw (d : Dat) : Prop := ∃ (cs : List Int) (p b s : Int), d = .lst [.lst (cs.map .int), .int p, .int b, .int s] ∧ 0 ≤ p ∧ 0 ≤ s ∧ s < 2305843009213693951
theorem at_map {cs : List Int} {p : Int} (h0 : 0 ≤ p) (h : p < (cs.length : Int)) : ∃ z, atI (cs.map Dat.int) p = some (.int z) := by
  unfold atI ixN
  rw [if_pos h0, if_pos (by rw [List.length_map]; exact h)]
  exact ⟨cs[p.toNat]'(by omega), by simp [List.getElem?_eq_getElem (show p.toNat < cs.length by omega)]⟩
theorem take_ev {d : Dat} {m : Int} (hd : Drw d) (hm : 0 < m) (hm2 : m < 2 ^ 200) :
    Ev F_law_take [.ow d, .fr (.int m)] (fun r as => ∃ i d', r = .fr (.int i) ∧ as = [.ow d', .fr (.int m)] ∧ Drw d' ∧ 0 ≤ i ∧ i < m) NX := by
  obtain ⟨cs, p, b, s, rfl, hp, hs, hs2⟩ := hd
  unfold F_law_take
  with_reducible refine wp_mkF ?_
  unfold b_law_take
  refine w_cut (fun η => ∃ p b s x, η = [.ow (.lst [.lst (cs.map .int), .int p, .int b, .int s]), .fr (.int m), x, .no, .no] ∧ 0 ≤ p ∧ 0 ≤ s ∧ s < 2305843009213693951) ?_ ?_
  · fail "st"
    refine w_dec (fun h1 => ?_) (fun h1 => ?_)
    · fail "st"
      refine w_dec (fun h2 => ?_) (fun h2 => ?_)
      · fail "st"
        have h2' : p < (cs.length : Int) := by rw [List.length_map] at h2; exact h2
        obtain ⟨z, hz⟩ := at_map hp h2'
        refine w_lft hz ?_
        fail "st"
        refine w_dec (fun h3 => ?_) (fun h3 => ?_)
        all_goals
          fail "st"
          exact ⟨rfl, _, _, _, _, rfl, by omega, by assumption, by assumption⟩
      · fail "st"
        exact ⟨rfl, _, _, _, _, rfl, hp, hs, hs2⟩
    · fail "st"
      exact ⟨rfl, _, _, _, _, rfl, hp, hs, hs2⟩
  · rintro η ⟨p, b, s, x, rfl, hp, hs, hs2⟩
    fail "st"
    refine w_dec (fun h1 => ?_) (fun h1 => ?_)
    · fail "st"
      exact ⟨_, _, rfl, rfl, ⟨cs, _, _, _, rfl, hp, hs, hs2⟩, by assumption, by assumption⟩
    · fail "st"
      exact ⟨_, _, rfl, rfl, ⟨cs, _, _, _, rfl, hp, by assumption, by assumption⟩, by assumption, by assumption⟩
/-- one of a text's signs, one of a list's things -/
theorem begin_ev {ns : List Int} (hl : ns.length ≤ 63) : Ev F_law_begin [.fr (.scr (ns.map .int))] (fun r as => ∃ d, r = .ow d ∧ as = [.fr (.scr (ns.map .int))] ∧ Drw d) NX := by
  unfold F_law_begin
  with_reducible refine wp_mkF ?_
  unfold b_law_begin
  fail "st"
  have e : cutD (ns.map Dat.int) none (some 63) = (ns.take 63).map Dat.int := by
    unfold cutD
    rw [HT.sIx_none, List.drop_zero, Nat.sub_zero, List.map_take]
    rw [show HT.sIx (List.map Dat.int ns).length (List.map Dat.int ns).length (some (63 : Int)) = min 63 (List.map Dat.int ns).length from rfl, List.length_map]
    rw [Nat.min_eq_right hl, List.take_of_length_le (Nat.le_of_eq (List.length_map (as := ns) Dat.int)), List.take_of_length_le (by rw [List.length_map]; exact hl)]
  rw [e]
  exact ⟨_, rfl, rfl, ns.take 63, 0, 0, 41, rfl, by decide, by decide, by decide⟩

end G

namespace G
open PySem L2 D
local macro_rules | `(tactic| fail "isj") => `(tactic| with_reducible refine w_lft isi_non_is ?_)
local macro_rules | `(tactic| fail "isj") => `(tactic| with_reducible refine w_lft isi_non_dict ?_)
local macro_rules | `(tactic| fail "isj") => `(tactic| with_reducible refine w_lft isi_non_tuple ?_)
local macro_rules | `(tactic| fail "isj") => `(tactic| with_reducible refine w_lft isi_non_list ?_)
local macro_rules | `(tactic| fail "isj") => `(tactic| with_reducible refine w_lft isi_non_str ?_)
local macro_rules | `(tactic| fail "isj") => `(tactic| with_reducible refine w_lft isi_non_int ?_)
local macro_rules | `(tactic| fail "isj") => `(tactic| with_reducible refine w_lft isi_non_bool ?_)
local macro_rules | `(tactic| fail "isj") => `(tactic| with_reducible refine w_lft isi_dic_is ?_)
local macro_rules | `(tactic| fail "isj") => `(tactic| with_reducible refine w_lft isi_dic_dict ?_)
local macro_rules | `(tactic| fail "isj") => `(tactic| with_reducible refine w_lft isi_dic_tuple ?_)
local macro_rules | `(tactic| fail "isj") => `(tactic| with_reducible refine w_lft isi_dic_list ?_)
local macro_rules | `(tactic| fail "isj") => `(tactic| with_reducible refine w_lft isi_dic_str ?_)
local macro_rules | `(tactic| fail "isj") => `(tactic| with_reducible refine w_lft isi_dic_int ?_)
local macro_rules | `(tactic| fail "isj") => `(tactic| with_reducible refine w_lft isi_dic_bool ?_)
local macro_rules | `(tactic| fail "isj") => `(tactic| with_reducible refine w_lft isi_tup_is ?_)
local macro_rules | `(tactic| fail "isj") => `(tactic| with_reducible refine w_lft isi_tup_dict ?_)
local macro_rules | `(tactic| fail "isj") => `(tactic| with_reducible refine w_lft isi_tup_tuple ?_)
local macro_rules | `(tactic| fail "isj") => `(tactic| with_reducible refine w_lft isi_tup_list ?_)
local macro_rules | `(tactic| fail "isj") => `(tactic| with_reducible refine w_lft isi_tup_str ?_)
local macro_rules | `(tactic| fail "isj") => `(tactic| with_reducible refine w_lft isi_tup_int ?_)
local macro_rules | `(tactic| fail "isj") => `(tactic| with_reducible refine w_lft isi_tup_bool ?_)
local macro_rules | `(tactic| fail "isj") => `(tactic| with_reducible refine w_lft isi_lst_is ?_)
local macro_rules | `(tactic| fail "isj") => `(tactic| with_reducible refine w_lft isi_lst_dict ?_)
local macro_rules | `(tactic| fail "isj") => `(tactic| with_reducible refine w_lft isi_lst_tuple ?_)
local macro_rules | `(tactic| fail "isj") => `(tactic| with_reducible refine w_lft isi_lst_list ?_)
local macro_rules | `(tactic| fail "isj") => `(tactic| with_reducible refine w_lft isi_lst_str ?_)
local macro_rules | `(tactic| fail "isj") => `(tactic| with_reducible refine w_lft isi_lst_int ?_)
local macro_rules | `(tactic| fail "isj") => `(tactic| with_reducible refine w_lft isi_lst_bool ?_)
local macro_rules | `(tactic| fail "isj") => `(tactic| with_reducible refine w_lft isi_bl_is ?_)
local macro_rules | `(tactic| fail "isj") => `(tactic| with_reducible refine w_lft isi_bl_dict ?_)
local macro_rules | `(tactic| fail "isj") => `(tactic| with_reducible refine w_lft isi_bl_tuple ?_)
local macro_rules | `(tactic| fail "isj") => `(tactic| with_reducible refine w_lft isi_bl_list ?_)
local macro_rules | `(tactic| fail "isj") => `(tactic| with_reducible refine w_lft isi_bl_str ?_)
local macro_rules | `(tactic| fail "isj") => `(tactic| with_reducible refine w_lft isi_bl_int ?_)
local macro_rules | `(tactic| fail "isj") => `(tactic| with_reducible refine w_lft isi_bl_bool ?_)
local macro_rules | `(tactic| fail "isj") => `(tactic| with_reducible refine w_lft isi_int_is ?_)
local macro_rules | `(tactic| fail "isj") => `(tactic| with_reducible refine w_lft isi_int_dict ?_)
local macro_rules | `(tactic| fail "isj") => `(tactic| with_reducible refine w_lft isi_int_tuple ?_)
local macro_rules | `(tactic| fail "isj") => `(tactic| with_reducible refine w_lft isi_int_list ?_)
local macro_rules | `(tactic| fail "isj") => `(tactic| with_reducible refine w_lft isi_int_str ?_)
local macro_rules | `(tactic| fail "isj") => `(tactic| with_reducible refine w_lft isi_int_int ?_)
local macro_rules | `(tactic| fail "isj") => `(tactic| with_reducible refine w_lft isi_int_bool ?_)
local macro_rules | `(tactic| fail "isj") => `(tactic| with_reducible refine w_lft isi_str_is ?_)
local macro_rules | `(tactic| fail "isj") => `(tactic| with_reducible refine w_lft isi_str_dict ?_)
local macro_rules | `(tactic| fail "isj") => `(tactic| with_reducible refine w_lft isi_str_tuple ?_)
local macro_rules | `(tactic| fail "isj") => `(tactic| with_reducible refine w_lft isi_str_list ?_)
local macro_rules | `(tactic| fail "isj") => `(tactic| with_reducible refine w_lft isi_str_str ?_)
local macro_rules | `(tactic| fail "isj") => `(tactic| with_reducible refine w_lft isi_str_int ?_)
local macro_rules | `(tactic| fail "isj") => `(tactic| with_reducible refine w_lft isi_str_bool ?_)
local macro_rules | `(tactic| fail "isi") => `(tactic| (with_reducible refine w_isIsi ?_; fail "isj"))
local macro_rules | `(tactic| fail "nm") => `(tactic| ((try dsimp only [pb_nil, pb_va, pb_io, wipeE, argS, List.map, List.append_nil, List.cons_append, List.nil_append, List.set_cons_zero, List.set_cons_succ, List.length_cons, List.length_nil, List.replicate_succ, List.replicate_zero, Nat.reduceAdd, Nat.reduceSub, Option.getD_some, List.getElem?_cons_zero, List.getElem?_cons_succ]); (exact Nm.rfl)))
local macro_rules | `(tactic| fail "s1") => `(tactic| ((fail_if_success (with_reducible refine w_isSorted ?_)); (fail_if_success (with_reducible refine w_isDict ?_)); (fail_if_success (with_reducible refine w_isToStr ?_)); (fail_if_success (with_reducible refine w_isIn ?_)); (fail_if_success (with_reducible refine w_isNotIn ?_)); (fail_if_success (with_reducible refine w_isArr ?_)); with_reducible refine w_lft rfl ?_))
local macro_rules | `(tactic| fail "s1") => `(tactic| (fail "isi"))
local macro_rules | `(tactic| fail "s1") => `(tactic| (with_reducible refine w_lenS ?c ?_; (case c => omega)))
local macro_rules | `(tactic| fail "s1") => `(tactic| (with_reducible refine w_addS ?c ?_; (case c => (simp only [Str.length_append]; omega))))
local macro_rules | `(tactic| fail "s1") => `(tactic| (with_reducible refine w_div ?c ?_; (case c => (constructor <;> omega))))
local macro_rules | `(tactic| fail "s1") => `(tactic| (with_reducible refine w_mul ?c ?_; (case c => (unfold CMul; omega))))
local macro_rules | `(tactic| fail "s1") => `(tactic| (with_reducible refine w_mod ?c (fun _ _ _ => ?_); (case c => first | decide | assumption | omega)))
local macro_rules | `(tactic| fail "s1") => `(tactic| (with_reducible refine w_fin_nx rfl ?_))
local macro_rules | `(tactic| fail "s1") => `(tactic| (with_reducible refine w_fin_ro rfl ?_))
local macro_rules | `(tactic| fail "s1") => `(tactic| (with_reducible refine w_fin_rt rfl ?_))
local macro_rules | `(tactic| fail "s1") => `(tactic| (with_reducible refine w_propF ?_))
local macro_rules | `(tactic| fail "s1") => `(tactic| (with_reducible refine w_propT ?_))
local macro_rules | `(tactic| fail "s1") => `(tactic| (with_reducible refine w_FT ?_))
local macro_rules | `(tactic| fail "s1") => `(tactic| (with_reducible refine w_TF ?_))
local macro_rules | `(tactic| fail "s1") => `(tactic| (with_reducible refine w_same ?_))
local macro_rules | `(tactic| fail "s1") => `(tactic| (with_reducible refine w_lookT ?_))
local macro_rules | `(tactic| fail "s1") => `(tactic| (with_reducible refine w_retV rfl ?_))
local macro_rules | `(tactic| fail "s1") => `(tactic| (with_reducible refine w_gnil ?_))
local macro_rules | `(tactic| fail "s1") => `(tactic| (with_reducible refine w_gcons ?_))
local macro_rules | `(tactic| fail "s1") => `(tactic| (with_reducible refine w_gtup ?_))
local macro_rules | `(tactic| fail "s1") => `(tactic| (with_reducible refine w_owSetN (η' := ?_) rfl rfl ?_ ?_; rotate_left; focus (fail "nm")))
local macro_rules | `(tactic| fail "s1") => `(tactic| (with_reducible refine w_retVON (η' := ?_) rfl ?_ ?_; rotate_left; focus (fail "nm")))
local macro_rules | `(tactic| fail "s1") => `(tactic| (with_reducible refine w_wipe (η' := ?_) ?_ ?_; rotate_left; focus (fail "nm")))
local macro_rules | `(tactic| fail "s1") => `(tactic| (with_reducible refine w_app0 (η' := ?_) ?_ ?_; rotate_left; focus (fail "nm")))
local macro_rules | `(tactic| fail "s1") => `(tactic| (with_reducible refine w_not ?_))
local macro_rules | `(tactic| fail "s1") => `(tactic| (with_reducible refine w_ifF ?_))
local macro_rules | `(tactic| fail "s1") => `(tactic| (with_reducible refine w_ifT ?_))
local macro_rules | `(tactic| fail "s1") => `(tactic| (with_reducible refine w_setON (η' := ?_) (by decide) ?_ ?_; rotate_left; focus (fail "nm")))
local macro_rules | `(tactic| fail "s1") => `(tactic| (with_reducible refine w_gsetN (η' := ?_) ?_ ?_; rotate_left; focus (fail "nm")))
local macro_rules | `(tactic| fail "s1") => `(tactic| (with_reducible refine w_setN (η' := ?_) ?_ ?_; rotate_left; focus (fail "nm")))
local macro_rules | `(tactic| fail "s1") => `(tactic| (with_reducible refine w_varO rfl ?_))
local macro_rules | `(tactic| fail "s1") => `(tactic| (with_reducible refine w_peekO rfl ?_))
local macro_rules | `(tactic| fail "s1") => `(tactic| (with_reducible refine w_peek rfl ?_))
local macro_rules | `(tactic| fail "s1") => `(tactic| (with_reducible refine w_var rfl ?_))
local macro_rules | `(tactic| fail "s1") => `(tactic| (with_reducible refine w_ret ?_))
local macro_rules | `(tactic| fail "s1") => `(tactic| (with_reducible refine w_callN (as := ?_) rfl rfl ?_ ?_; rotate_left; focus (fail "nm")))
local macro_rules | `(tactic| fail "s1") => `(tactic| (with_reducible refine w_pb (η' := ?_) ?_ ?_; rotate_left; focus (fail "nm")))
local macro_rules | `(tactic| fail "s1") => `(tactic| (with_reducible refine w_bpeekO rfl ?_))
local macro_rules | `(tactic| fail "s1") => `(tactic| (with_reducible refine w_bpeek rfl ?_))
local macro_rules | `(tactic| fail "s1") => `(tactic| (with_reducible refine w_sq ?_))
local macro_rules | `(tactic| fail "s1") => `(tactic| (with_reducible refine w_bnd ?_))
local macro_rules | `(tactic| fail "s1") => `(tactic| (with_reducible refine w_bret ?_))
local macro_rules | `(tactic| fail "s1") => `(tactic| (with_reducible refine w_bvar rfl ?_))
local macro_rules | `(tactic| fail "st") => `(tactic| repeat (fail "s1"))

local macro_rules | `(tactic| fail "lit1") => `(tactic| (with_reducible refine w_isIn ?_; with_reducible refine w_lft (a := false) (by decide +kernel) ?_))
local macro_rules | `(tactic| fail "lit1") => `(tactic| (with_reducible refine w_isIn ?_; with_reducible refine w_lft (a := true) (by decide +kernel) ?_))
local macro_rules | `(tactic| fail "lit1") => `(tactic| (with_reducible refine w_gstar1 ?_))
local macro_rules | `(tactic| fail "lit1") => `(tactic| (with_reducible refine w_decF (by decide +kernel) ?_))
local macro_rules | `(tactic| fail "lit1") => `(tactic| (with_reducible refine w_decT (by decide +kernel) ?_))
local macro_rules | `(tactic| fail "lit") => `(tactic| (fail "st"; repeat (fail "lit1"; fail "st")))

/-! ### k52 -/
noncomputable abbrev Row : Type := Int × Option Int
noncomputable def rD (p : Row) : Dat := .dic ((.inr "a", .int p.1) :: (match p.2 with | some y => [(.inr "b", .int y)] | none => []))
noncomputable def rOk (p : Row) : Prop := p.1 ∈ ([0, 1, 2] : List Int) ∧ ∀ y, p.2 = some y → y ∈ ([0, 1, 2] : List Int)
theorem deq_int (n : Nat) (i j : Int) : deq n (.int i) (.int j) = some (decide (i = j)) := by
  cases n <;> rfl
theorem rD_eq (p q : Row) : deq 8 (rD p) (rD q) = some (decide (p = q)) := by
  obtain ⟨x, y⟩ := p
  obtain ⟨z, w⟩ := q
  have e : ∀ l m, deq 8 (.dic l) (.dic m) = (deqk (deq 7) m l).map fun b => (l.length == m.length) && b := fun _ _ => rfl
  have ka : ∀ (k : Key) (d : Dat) (l : List (Key × Dat)), valD ((k, d) :: l) k = some d := fun k d l => by
    unfold valD
    rw [List.find?_cons_of_pos (by simp)]; rfl
  have kb : ∀ (d : Dat) (l : List (Key × Dat)), valD ((.inr "a", d) :: l) (.inr "b") = valD l (.inr "b") := fun d l => by
    unfold valD
    rw [List.find?_cons_of_neg (by simp; decide)]
  have kc : valD [] (.inr "b") = none := rfl
  unfold rD
  rw [e]
  cases y <;> cases w <;> simp only [deqk, ka, kb, kc, deq_int, Option.bind_some, Option.map_some, List.length_cons, List.length_nil]
  all_goals
    by_cases h : x = z <;> simp [h]
theorem rX (x : Row) : ∀ l : List Row, deqX (deq 8) (rD x) (l.map rD) = some (l.map fun d => decide (d = x))
  | [] => rfl
  | d :: l => by
    rw [List.map_cons]
    unfold deqX
    rw [rD_eq, Option.bind_some, rX x l, Option.map_some, List.map_cons]
noncomputable abbrev ls (l : List Row) : Dat := .lst (l.map rD)
theorem in_ls (x : Row) (l : List Row) : dInQ (rD x) (ls l) = some (decide (x ∈ l)) := by
  show (deqX (deq 8) (rD x) (l.map rD)).map _ = _
  rw [rX, Option.map_some]
  congr 1
  rw [Bool.eq_iff_iff]
  simp
theorem nin_ls (x : Row) (l : List Row) : dNotInQ (rD x) (ls l) = some (!decide (x ∈ l)) := by
  unfold dNotInQ
  rw [in_ls]; rfl
theorem cnt_ls (x : Row) (l : List Row) : dCntQ (ls l) (rD x) = some (.int (l.count x : Nat)) := by
  show (deqX (deq 8) (rD x) (l.map rD)).map _ = _
  rw [rX, Option.map_some]
  congr 3
  rw [List.countP_map, List.count]
  apply List.countP_congr
  intro a _
  simp
theorem first_ls (x : Row) : ∀ {l : List Row}, x ∈ l → ∃ j, first (l.map fun d => decide (d = x)) = some j ∧ j < l.length ∧ (∀ {t : List Row}, (x :: t).Sublist l → t.Sublist (l.drop (j + 1))) ∧ l.eraseIdx j = l.erase x
  | [], h => nomatch h
  | d :: l, h => by
    by_cases e : d = x
    · subst e
      refine ⟨0, by simp [first], by simp, fun {t} s => ?_, by simp⟩
      rw [List.drop_succ_cons, List.drop_zero]
      exact List.cons_sublist_cons.mp s
    · obtain ⟨j, h1, h2, h3, h4⟩ := first_ls x (l := l) ((List.mem_cons.mp h).resolve_left fun z => e z.symm)
      refine ⟨j + 1, by simp [first, e, h1], by simp; omega, fun {t} s => ?_, ?_⟩
      · rw [List.drop_succ_cons]
        refine h3 ?_
        cases s with
        | cons _ s => exact s
        | cons_cons _ s => exact absurd rfl e
      · rw [List.eraseIdx_cons_succ, h4, List.erase_cons_tail (by simpa using e)]
theorem idx_ls {x : Row} {l : List Row} (h : x ∈ l) : ∃ j : Nat, dIdxQ (ls l) (rD x) = some (.int j) ∧ j < l.length ∧ ∀ {t : List Row}, (x :: t).Sublist l → t.Sublist (l.drop (j + 1)) := by
  obtain ⟨j, h1, h2, h3, _⟩ := first_ls x h
  refine ⟨j, ?_, h2, h3⟩
  show (deqX (deq 8) (rD x) (l.map rD)).bind _ = _
  rw [rX, Option.bind_some, h1]; rfl
theorem eraseIdx_map' {α β : Type} (f : α → β) : ∀ (l : List α) (j : Nat), (l.map f).eraseIdx j = (l.eraseIdx j).map f
  | [], _ => rfl
  | _ :: _, 0 => rfl
  | a :: l, j + 1 => by rw [List.map_cons, List.eraseIdx_cons_succ, List.eraseIdx_cons_succ, List.map_cons, eraseIdx_map' f l j]
theorem rem_ls {x : Row} {l : List Row} (h : x ∈ l) : lRem (rD x) (ls l) = some (ls (l.erase x)) := by
  obtain ⟨j, h1, _, _, h4⟩ := first_ls x h
  show (deqX (deq 8) (rD x) (l.map rD)).bind _ = _
  rw [rX, Option.bind_some, h1, Option.map_some, ← h4]
  rw [eraseIdx_map']
/-! the program's list -/
noncomputable def lessL : List Row → List Row → List Row
  | [], _ => []
  | x :: xs, rest => if x ∈ rest then lessL xs (rest.erase x) else x :: lessL xs rest
theorem lessL_sub : ∀ (xs rest : List Row), (lessL xs rest).Sublist xs
  | [], _ => .slnil
  | x :: xs, rest => by
    unfold lessL
    split
    · exact .cons _ (lessL_sub xs _)
    · exact List.Sublist.cons_cons _ (lessL_sub xs _)
theorem lessL_cnt (y : Row) : ∀ (xs rest : List Row), (lessL xs rest).count y = xs.count y - rest.count y
  | [], _ => by simp [lessL]
  | x :: xs, rest => by
    unfold lessL
    split
    · rename_i h
      rw [lessL_cnt y xs]
      by_cases e : x = y
      · subst e
        have := List.count_pos_iff.mpr h
        rw [List.count_erase_self, List.count_cons_self]; omega
      · rw [List.count_erase_of_ne (by simpa using Ne.symm e), List.count_cons_of_ne e]
    · rename_i h
      by_cases e : x = y
      · subst e
        rw [List.count_cons_self, List.count_cons_self, lessL_cnt x xs, List.count_eq_zero.mpr h]; omega
      · rw [List.count_cons_of_ne e, List.count_cons_of_ne e, lessL_cnt y xs]
theorem lessL_cons (x : Row) (xs rest : List Row) : lessL (x :: xs) rest = if x ∈ rest then lessL xs (rest.erase x) else x :: lessL xs rest := rfl
theorem app_ls {x : Row} {l : List Row} (h : l.length ≤ 1000) : lApp (rD x) (ls l) = some (ls (l ++ [x])) := by
  show (if fits (l.map rD).length = true then some (Dat.lst (l.map rD ++ [rD x])) else none) = _
  rw [if_pos (show fits (l.map rD).length = true from decide_eq_true (by rw [List.length_map]; omega)), ls, List.map_append]; rfl
theorem put_a (x : Int) : dSet (.str "a") (.int x) (.dic []) = some (rD (x, none)) := rfl
theorem put_b (x y : Int) : dSet (.str "b") (.int y) (rD (x, none)) = some (rD (x, some y)) := rfl
theorem add_ls {l m : List Row} (h : l.length + m.length ≤ 1000) : dAdd (ls l) (ls m) = some (ls (l ++ m)) := by
  show (if fits ((l.map rD).length + (m.map rD).length) = true then some (Dat.lst (l.map rD ++ m.map rD)) else none) = _
  rw [if_pos (show fits ((l.map rD).length + (m.map rD).length) = true from decide_eq_true (by rw [List.length_map, List.length_map]; omega)), ls, List.map_append]
theorem w_forC {η : En} {E : Xc → En → Prop} {P : Out → En → Prop} {f : Dat → M Unit} {body : M Out} {d : Dat} {ds : List Dat} (h : Ev (f d) η (fun _ η1 => Ev body η1 (fun o η2 => match o with
    | .nx => Ev (mFor f body ds) η2 P E
    | .ct => Ev (mFor f body ds) η2 P E
    | .bk => P .nx η2
    | o => P o η2) E) E) : Ev (mFor f body (d :: ds)) η P E := by
  unfold mFor
  rw [wp_bnd]
  refine Ev.mono h (fun _ η1 h1 => ?_) fun _ _ z => z
  rw [wp_bnd]
  refine Ev.mono h1 (fun o η2 h2 => ?_) fun _ _ z => z
  cases o with
  | nx => exact h2
  | ct => exact h2
  | bk => exact wp_ret.mpr h2
  | rt d => exact wp_ret.mpr h2
  | ro d => exact wp_ret.mpr h2
theorem w_forN {η : En} {E : Xc → En → Prop} {P : Out → En → Prop} {f : Dat → M Unit} {body : M Out} (h : P .nx η) : Ev (mFor f body []) η P E := by
  unfold mFor; exact wp_ret.mpr h
section
variable {α : Type} {η η' : En} {E : Xc → En → Prop} {PD : Dat → En → Prop} {i : Nat}
theorem w_dresL {l : List Dat} (h : PD (.lst l) η) : Ev (lft (dRes (.ow (.lst l)))) η PD E := wp_some.mpr h
theorem w_dresD {l : List (Key × Dat)} (h : PD (.dic l) η) : Ev (lft (dRes (.ow (.dic l)))) η PD E := wp_some.mpr h
theorem w_varOL {l : List Dat} (e : η[i]? = some (.ow (.lst l))) (h2 : Nm (η.set i (.fr (.lst l))) η') (h : PD (.lst l) η') : Ev (mVar i) η PD E := w_varON e Nd.rfl h2 h
theorem w_varOD {l : List (Key × Dat)} (e : η[i]? = some (.ow (.dic l))) (h2 : Nm (η.set i (.fr (.dic l))) η') (h : PD (.dic l) η') : Ev (mVar i) η PD E := w_varON e Nd.rfl h2 h
end
/-! repr of both lists -/
theorem row_py {p : Row} (h : rOk p) : ∃ q, toPyD (rD p) = some q ∧ q.showable = true ∧ q.depth ≤ 1 ∧ q.leavesShort 100 = true ∧ q.weight ≤ 20 := by
  obtain ⟨x, y⟩ := p
  obtain ⟨h1, h2⟩ := h
  have hx : x = 0 ∨ x = 1 ∨ x = 2 := by simpa using h1
  have hy : y = none ∨ y = some 0 ∨ y = some 1 ∨ y = some 2 := by
    cases y with
    | none => exact .inl rfl
    | some z =>
      have := h2 z rfl
      simp at this
      rcases this with rfl | rfl | rfl <;> simp
  rcases hx with rfl | rfl | rfl <;> rcases hy with rfl | rfl | rfl | rfl
  all_goals
    simp only [rD, toPyD, toPyKs, keyP, Option.bind_some, Option.map_some]
    exact ⟨_, rfl, by decide +kernel, by decide +kernel, by decide +kernel, by decide +kernel⟩
theorem rows_py : ∀ {l : List Row}, (∀ p ∈ l, rOk p) → ∃ ps, toPyDs (l.map rD) = some ps ∧ PyData.showableAll ps = true ∧ PyData.depthAll ps ≤ 1 ∧ PyData.leavesShortAll 100 ps = true ∧ PyData.weightAll ps ≤ 21 * l.length
  | [], _ => ⟨[], by rw [List.map_nil, toPyDs], by rw [PyData.showableAll], by rw [PyData.depthAll]; omega, by rw [PyData.leavesShortAll], by rw [PyData.weightAll]; omega⟩
  | p :: l, h => by
    obtain ⟨ps, h1, h2, h3, h4, h5⟩ := rows_py (l := l) fun q hq => h q (List.mem_cons_of_mem _ hq)
    obtain ⟨q, g1, g2, g3, g4, g5⟩ := row_py (h p (List.mem_cons_self ..))
    refine ⟨q :: ps, by rw [List.map_cons, toPyDs, g1, h1]; rfl, by rw [PyData.showableAll, g2, h2]; rfl, by rw [PyData.depthAll]; omega, by rw [PyData.leavesShortAll, g4, h4]; rfl, by rw [PyData.weightAll, List.length_cons]; omega⟩
theorem two_repr {l m : List Row} (hl : ∀ p ∈ l, rOk p) (hm : ∀ p ∈ m, rOk p) (kl : l.length ≤ 100) (km : m.length ≤ 100) : ∃ t, dRepr [.lst [ls l, ls m]] = some (.str t) := by
  obtain ⟨ps, h1, h2, h3, h4, h5⟩ := rows_py hl
  obtain ⟨qs, g1, g2, g3, g4, g5⟩ := rows_py hm
  have e : toPyD (.lst [ls l, ls m]) = some (.list [.list ps, .list qs]) := by
    rw [toPyD, toPyDs, toPyDs, toPyDs, ls, ls, toPyD, toPyD, h1, g1]; rfl
  have sl := PyData.shown_le 100 (by decide) (.list [.list ps, .list qs]) (by
    rw [PyData.leavesShort, PyData.leavesShortAll, PyData.leavesShortAll, PyData.leavesShortAll, PyData.leavesShort, PyData.leavesShort, h4, g4]; rfl)
  rw [PyData.weight, PyData.weightAll, PyData.weightAll, PyData.weightAll, PyData.weight, PyData.weight] at sl
  refine ⟨(PyData.list [.list ps, .list qs]).shown, ?_⟩
  show (if isBox (.lst [ls l, ls m]) = true then (toPyD (.lst [ls l, ls m])).bind reprD else none) = _
  rw [if_pos (show isBox (.lst [ls l, ls m]) = true from rfl), e]
  show reprD (.list [.list ps, .list qs]) = _
  unfold reprD
  rw [if_pos]
  refine ⟨by rw [PyData.showable, PyData.showableAll, PyData.showableAll, PyData.showableAll, PyData.showable, PyData.showable, h2, g2]; rfl, ?_, ?_⟩
  · rw [PyData.depth, PyData.depthAll, PyData.depthAll, PyData.depthAll, PyData.depth, PyData.depth]; omega
  · omega
theorem ores_drw {d : Dat} (h : Drw d) : oRes (.ow d) = some d := by
  obtain ⟨cs, p, b, s, rfl, _⟩ := h
  rfl
theorem dres_row (p : Row) : dRes (.ow (rD p)) = some (rD p) := rfl
theorem w_dresR {p : Row} {η : En} {E : Xc → En → Prop} {PD : Dat → En → Prop} (h : PD (rD p) η) : Ev (lft (dRes (.ow (rD p)))) η PD E := w_lft (dres_row p) h
theorem w_gtT {η : En} {E : Xc → En → Prop} {P : Dat → En → Prop} {a : Dat} {m1 m2 : M Dat} (h : Ev m1 η P E) : Ev (if true = true then m1 else m2) η P E := h
theorem rng_ok {i : Int} (h0 : 0 ≤ i) (h1 : i < 100) : dItR (.int i) = some ((List.range i.toNat).map fun k : Nat => Dat.int k) := if_pos (by constructor <;> omega)
theorem rev_ls (l : List Row) : dRevL (ls l) = some (ls l.reverse) := by
  show some (Dat.lst (l.map rD).reverse) = _
  rw [← List.map_reverse]

end G

namespace G
open PySem L2 D
local macro_rules | `(tactic| fail "isj") => `(tactic| with_reducible refine w_lft isi_non_is ?_)
local macro_rules | `(tactic| fail "isj") => `(tactic| with_reducible refine w_lft isi_non_dict ?_)
local macro_rules | `(tactic| fail "isj") => `(tactic| with_reducible refine w_lft isi_non_tuple ?_)
local macro_rules | `(tactic| fail "isj") => `(tactic| with_reducible refine w_lft isi_non_list ?_)
local macro_rules | `(tactic| fail "isj") => `(tactic| with_reducible refine w_lft isi_non_str ?_)
local macro_rules | `(tactic| fail "isj") => `(tactic| with_reducible refine w_lft isi_non_int ?_)
local macro_rules | `(tactic| fail "isj") => `(tactic| with_reducible refine w_lft isi_non_bool ?_)
local macro_rules | `(tactic| fail "isj") => `(tactic| with_reducible refine w_lft isi_dic_is ?_)
local macro_rules | `(tactic| fail "isj") => `(tactic| with_reducible refine w_lft isi_dic_dict ?_)
local macro_rules | `(tactic| fail "isj") => `(tactic| with_reducible refine w_lft isi_dic_tuple ?_)
local macro_rules | `(tactic| fail "isj") => `(tactic| with_reducible refine w_lft isi_dic_list ?_)
local macro_rules | `(tactic| fail "isj") => `(tactic| with_reducible refine w_lft isi_dic_str ?_)
local macro_rules | `(tactic| fail "isj") => `(tactic| with_reducible refine w_lft isi_dic_int ?_)
local macro_rules | `(tactic| fail "isj") => `(tactic| with_reducible refine w_lft isi_dic_bool ?_)
local macro_rules | `(tactic| fail "isj") => `(tactic| with_reducible refine w_lft isi_tup_is ?_)
local macro_rules | `(tactic| fail "isj") => `(tactic| with_reducible refine w_lft isi_tup_dict ?_)
local macro_rules | `(tactic| fail "isj") => `(tactic| with_reducible refine w_lft isi_tup_tuple ?_)
local macro_rules | `(tactic| fail "isj") => `(tactic| with_reducible refine w_lft isi_tup_list ?_)
local macro_rules | `(tactic| fail "isj") => `(tactic| with_reducible refine w_lft isi_tup_str ?_)
local macro_rules | `(tactic| fail "isj") => `(tactic| with_reducible refine w_lft isi_tup_int ?_)
local macro_rules | `(tactic| fail "isj") => `(tactic| with_reducible refine w_lft isi_tup_bool ?_)
local macro_rules | `(tactic| fail "isj") => `(tactic| with_reducible refine w_lft isi_lst_is ?_)
local macro_rules | `(tactic| fail "isj") => `(tactic| with_reducible refine w_lft isi_lst_dict ?_)
local macro_rules | `(tactic| fail "isj") => `(tactic| with_reducible refine w_lft isi_lst_tuple ?_)
local macro_rules | `(tactic| fail "isj") => `(tactic| with_reducible refine w_lft isi_lst_list ?_)
local macro_rules | `(tactic| fail "isj") => `(tactic| with_reducible refine w_lft isi_lst_str ?_)
local macro_rules | `(tactic| fail "isj") => `(tactic| with_reducible refine w_lft isi_lst_int ?_)
local macro_rules | `(tactic| fail "isj") => `(tactic| with_reducible refine w_lft isi_lst_bool ?_)
local macro_rules | `(tactic| fail "isj") => `(tactic| with_reducible refine w_lft isi_bl_is ?_)
local macro_rules | `(tactic| fail "isj") => `(tactic| with_reducible refine w_lft isi_bl_dict ?_)
local macro_rules | `(tactic| fail "isj") => `(tactic| with_reducible refine w_lft isi_bl_tuple ?_)
local macro_rules | `(tactic| fail "isj") => `(tactic| with_reducible refine w_lft isi_bl_list ?_)
local macro_rules | `(tactic| fail "isj") => `(tactic| with_reducible refine w_lft isi_bl_str ?_)
local macro_rules | `(tactic| fail "isj") => `(tactic| with_reducible refine w_lft isi_bl_int ?_)
local macro_rules | `(tactic| fail "isj") => `(tactic| with_reducible refine w_lft isi_bl_bool ?_)
local macro_rules | `(tactic| fail "isj") => `(tactic| with_reducible refine w_lft isi_int_is ?_)
local macro_rules | `(tactic| fail "isj") => `(tactic| with_reducible refine w_lft isi_int_dict ?_)
local macro_rules | `(tactic| fail "isj") => `(tactic| with_reducible refine w_lft isi_int_tuple ?_)
local macro_rules | `(tactic| fail "isj") => `(tactic| with_reducible refine w_lft isi_int_list ?_)
local macro_rules | `(tactic| fail "isj") => `(tactic| with_reducible refine w_lft isi_int_str ?_)
local macro_rules | `(tactic| fail "isj") => `(tactic| with_reducible refine w_lft isi_int_int ?_)
local macro_rules | `(tactic| fail "isj") => `(tactic| with_reducible refine w_lft isi_int_bool ?_)
local macro_rules | `(tactic| fail "isj") => `(tactic| with_reducible refine w_lft isi_str_is ?_)
local macro_rules | `(tactic| fail "isj") => `(tactic| with_reducible refine w_lft isi_str_dict ?_)
local macro_rules | `(tactic| fail "isj") => `(tactic| with_reducible refine w_lft isi_str_tuple ?_)
local macro_rules | `(tactic| fail "isj") => `(tactic| with_reducible refine w_lft isi_str_list ?_)
local macro_rules | `(tactic| fail "isj") => `(tactic| with_reducible refine w_lft isi_str_str ?_)
local macro_rules | `(tactic| fail "isj") => `(tactic| with_reducible refine w_lft isi_str_int ?_)
local macro_rules | `(tactic| fail "isj") => `(tactic| with_reducible refine w_lft isi_str_bool ?_)
local macro_rules | `(tactic| fail "isi") => `(tactic| (with_reducible refine w_isIsi ?_; fail "isj"))
local macro_rules | `(tactic| fail "nm") => `(tactic| ((try dsimp only [pb_nil, pb_va, pb_io, wipeE, argS, List.map, List.append_nil, List.cons_append, List.nil_append, List.set_cons_zero, List.set_cons_succ, List.length_cons, List.length_nil, List.replicate_succ, List.replicate_zero, Nat.reduceAdd, Nat.reduceSub, Option.getD_some, List.getElem?_cons_zero, List.getElem?_cons_succ]); (exact Nm.rfl)))
local macro_rules | `(tactic| fail "s1") => `(tactic| ((fail_if_success (with_reducible refine w_isSorted ?_)); (fail_if_success (with_reducible refine w_isDict ?_)); (fail_if_success (with_reducible refine w_isToStr ?_)); (fail_if_success (with_reducible refine w_isIn ?_)); (fail_if_success (with_reducible refine w_isNotIn ?_)); (fail_if_success (with_reducible refine w_isArr ?_)); with_reducible refine w_lft rfl ?_))
local macro_rules | `(tactic| fail "s1") => `(tactic| (fail "isi"))
local macro_rules | `(tactic| fail "s1") => `(tactic| (with_reducible refine w_lenS ?c ?_; (case c => omega)))
local macro_rules | `(tactic| fail "s1") => `(tactic| (with_reducible refine w_addS ?c ?_; (case c => (simp only [Str.length_append]; omega))))
local macro_rules | `(tactic| fail "s1") => `(tactic| (with_reducible refine w_div ?c ?_; (case c => (constructor <;> omega))))
local macro_rules | `(tactic| fail "s1") => `(tactic| (with_reducible refine w_mul ?c ?_; (case c => (unfold CMul; omega))))
local macro_rules | `(tactic| fail "s1") => `(tactic| (with_reducible refine w_mod ?c (fun _ _ _ => ?_); (case c => first | decide | assumption | omega)))
local macro_rules | `(tactic| fail "s1") => `(tactic| (with_reducible refine w_fin_nx rfl ?_))
local macro_rules | `(tactic| fail "s1") => `(tactic| (with_reducible refine w_fin_ro rfl ?_))
local macro_rules | `(tactic| fail "s1") => `(tactic| (with_reducible refine w_fin_rt rfl ?_))
local macro_rules | `(tactic| fail "s1") => `(tactic| (with_reducible refine w_propF ?_))
local macro_rules | `(tactic| fail "s1") => `(tactic| (with_reducible refine w_propT ?_))
local macro_rules | `(tactic| fail "s1") => `(tactic| (with_reducible refine w_FT ?_))
local macro_rules | `(tactic| fail "s1") => `(tactic| (with_reducible refine w_TF ?_))
local macro_rules | `(tactic| fail "s1") => `(tactic| (with_reducible refine w_same ?_))
local macro_rules | `(tactic| fail "s1") => `(tactic| (with_reducible refine w_lookT ?_))
local macro_rules | `(tactic| fail "s1") => `(tactic| (with_reducible refine w_retV rfl ?_))
local macro_rules | `(tactic| fail "s1") => `(tactic| (with_reducible refine w_gnil ?_))
local macro_rules | `(tactic| fail "s1") => `(tactic| (with_reducible refine w_gcons ?_))
local macro_rules | `(tactic| fail "s1") => `(tactic| (with_reducible refine w_gtup ?_))
local macro_rules | `(tactic| fail "s1") => `(tactic| (with_reducible refine w_owSetN (η' := ?_) rfl rfl ?_ ?_; rotate_left; focus (fail "nm")))
local macro_rules | `(tactic| fail "s1") => `(tactic| (with_reducible refine w_retVON (η' := ?_) rfl ?_ ?_; rotate_left; focus (fail "nm")))
local macro_rules | `(tactic| fail "s1") => `(tactic| (with_reducible refine w_wipe (η' := ?_) ?_ ?_; rotate_left; focus (fail "nm")))
local macro_rules | `(tactic| fail "s1") => `(tactic| (with_reducible refine w_app0 (η' := ?_) ?_ ?_; rotate_left; focus (fail "nm")))
local macro_rules | `(tactic| fail "s1") => `(tactic| (with_reducible refine w_not ?_))
local macro_rules | `(tactic| fail "s1") => `(tactic| (with_reducible refine w_ifF ?_))
local macro_rules | `(tactic| fail "s1") => `(tactic| (with_reducible refine w_ifT ?_))
local macro_rules | `(tactic| fail "s1") => `(tactic| (with_reducible refine w_setON (η' := ?_) (by decide) ?_ ?_; rotate_left; focus (fail "nm")))
local macro_rules | `(tactic| fail "s1") => `(tactic| (with_reducible refine w_gsetN (η' := ?_) ?_ ?_; rotate_left; focus (fail "nm")))
local macro_rules | `(tactic| fail "s1") => `(tactic| (with_reducible refine w_setN (η' := ?_) ?_ ?_; rotate_left; focus (fail "nm")))
local macro_rules | `(tactic| fail "s1") => `(tactic| (with_reducible refine w_varO rfl ?_))
local macro_rules | `(tactic| fail "s1") => `(tactic| (with_reducible refine w_peekO rfl ?_))
local macro_rules | `(tactic| fail "s1") => `(tactic| (with_reducible refine w_peek rfl ?_))
local macro_rules | `(tactic| fail "s1") => `(tactic| (with_reducible refine w_var rfl ?_))
local macro_rules | `(tactic| fail "s1") => `(tactic| (with_reducible refine w_ret ?_))
local macro_rules | `(tactic| fail "s1") => `(tactic| (with_reducible refine w_callN (as := ?_) rfl rfl ?_ ?_; rotate_left; focus (fail "nm")))
local macro_rules | `(tactic| fail "s1") => `(tactic| (with_reducible refine w_pb (η' := ?_) ?_ ?_; rotate_left; focus (fail "nm")))
local macro_rules | `(tactic| fail "s1") => `(tactic| (with_reducible refine w_bpeekO rfl ?_))
local macro_rules | `(tactic| fail "s1") => `(tactic| (with_reducible refine w_bpeek rfl ?_))
local macro_rules | `(tactic| fail "s1") => `(tactic| (with_reducible refine w_sq ?_))
local macro_rules | `(tactic| fail "s1") => `(tactic| (with_reducible refine w_bnd ?_))
local macro_rules | `(tactic| fail "s1") => `(tactic| (with_reducible refine w_bret ?_))
local macro_rules | `(tactic| fail "s1") => `(tactic| (with_reducible refine w_bvar rfl ?_))
local macro_rules | `(tactic| fail "st") => `(tactic| repeat (fail "s1"))

local macro_rules | `(tactic| fail "lit1") => `(tactic| (with_reducible refine w_isIn ?_; with_reducible refine w_lft (a := false) (by decide +kernel) ?_))
local macro_rules | `(tactic| fail "lit1") => `(tactic| (with_reducible refine w_isIn ?_; with_reducible refine w_lft (a := true) (by decide +kernel) ?_))
local macro_rules | `(tactic| fail "lit1") => `(tactic| (with_reducible refine w_gstar1 ?_))
local macro_rules | `(tactic| fail "lit1") => `(tactic| (with_reducible refine w_decF (by decide +kernel) ?_))
local macro_rules | `(tactic| fail "lit1") => `(tactic| (with_reducible refine w_decT (by decide +kernel) ?_))
local macro_rules | `(tactic| fail "lit") => `(tactic| (fail "st"; repeat (fail "lit1"; fail "st")))

/-! ### k52: the program -/
local macro_rules | `(tactic| fail "s1") => `(tactic| (with_reducible refine w_dresL ?_))
local macro_rules | `(tactic| fail "s1") => `(tactic| (with_reducible refine w_dresD ?_))
local macro_rules | `(tactic| fail "s1") => `(tactic| (with_reducible refine w_varOL (η' := ?_) rfl ?_ ?_; rotate_left; focus (fail "nm")))
local macro_rules | `(tactic| fail "s1") => `(tactic| (with_reducible refine w_varOD (η' := ?_) rfl ?_ ?_; rotate_left; focus (fail "nm")))
theorem less_ev {rs os : List Row} (h1 : rs.length ≤ 1000) (h2 : os.length ≤ 1000) : Ev F_less [.fr (ls rs), .fr (ls os)] (fun r as => r = .ow (ls (lessL rs os)) ∧ as = [.fr (ls rs), .fr (ls os)]) NX := by
  unfold F_less
  with_reducible refine wp_mkF ?_
  unfold b_less
  fail "st"
  with_reducible refine wp_for (fun ds η => ∃ (xs rest found : List Row) (s : Sl), ds = xs.map rD ∧ η = [.fr (ls rs), .fr (ls os), .ow (ls rest), .ow (ls found), s] ∧ found ++ lessL xs rest = lessL rs os ∧ found.length + xs.length ≤ 1000) ?_ ?_ ?_
  · rintro d ds η ⟨xs, rest, found, s, hds, rfl, h3, h4⟩
    cases xs with
    | nil => cases hds
    | cons x xs =>
      rw [List.map_cons] at hds
      cases hds
      rw [List.length_cons] at h4
      fail "st"
      with_reducible refine w_lft (in_ls x rest) ?_
      rw [lessL_cons] at h3
      with_reducible refine w_dec (fun hm => ?_) (fun hm => ?_)
      · rw [if_pos hm] at h3
        fail "st"
        with_reducible refine w_owSetN (η' := ?_) rfl (rem_ls hm) ?_ ?_
        rotate_left
        focus (fail "nm")
        fail "st"
        exact ⟨xs, _, found, _, rfl, rfl, h3, by omega⟩
      · rw [if_neg hm] at h3
        fail "st"
        with_reducible refine w_owSetN (η' := ?_) rfl (app_ls (by omega)) ?_ ?_
        rotate_left
        focus (fail "nm")
        fail "st"
        exact ⟨xs, rest, _, _, rfl, rfl, by rw [List.append_assoc]; exact h3, by rw [List.length_append]; simp; omega⟩
  · rintro η ⟨xs, rest, found, s, hds, rfl, h3, h4⟩
    cases xs with
    | cons x xs => cases hds
    | nil =>
      fail "st"
      have e : found = lessL rs os := by rw [← h3]; simp [lessL]
      rw [e]
      exact ⟨rfl, rfl⟩
  · exact ⟨rs, os, [], _, rfl, rfl, rfl, by simp; omega⟩
noncomputable abbrev tr (l : List Row) : Dat := .lst (l.map fun p => .own (rD p))
theorem copy_ev {l : List Row} (h : l.length ≤ 1000) : Ev F_turned_copy [.fr (ls l)] (fun r as => r = .ow (.own (tr l)) ∧ as = [.fr (ls l)]) NX := by
  unfold F_turned_copy
  with_reducible refine wp_mkF ?_
  unfold b_turned_copy
  fail "st"
  refine wp_lcTMap id (decide_eq_true (by rw [List.length_map]; omega)) (fun d hd => ?_) ?_
  · obtain ⟨p, hp, rfl⟩ := List.mem_map.mp hd
    fail "st"
    exact ⟨rfl, rfl⟩
  · have e : ((l.map rD).map id).map Dat.own = l.map fun p => .own (rD p) := by simp
    rw [e]
    fail "st"
    exact ⟨rfl, rfl⟩
theorem changed_ev {rs os : List Row} (h1 : rs.length ≤ 1000) (h2 : os.length ≤ 1000) : Ev F_changed [.fr (ls rs), .fr (ls os)] (fun r as => r = .ow (.own (.tup [.own (tr (lessL rs os)), .own (tr (lessL os rs))])) ∧ as = [.fr (ls rs), .fr (ls os)]) NX := by
  unfold F_changed
  with_reducible refine wp_mkF ?_
  unfold b_changed
  fail "st"
  with_reducible refine Ev.imp (less_ev h1 h2) fun r as ⟨e1, e2⟩ => ?_
  subst e1; subst e2
  fail "st"
  with_reducible refine Ev.imp (copy_ev (Nat.le_trans (lessL_sub _ _).length_le h1)) fun r as ⟨e1, e2⟩ => ?_
  subst e1; subst e2
  fail "st"
  with_reducible refine Ev.imp (less_ev h2 h1) fun r as ⟨e1, e2⟩ => ?_
  subst e1; subst e2
  fail "st"
  with_reducible refine Ev.imp (copy_ev (Nat.le_trans (lessL_sub _ _).length_le h2)) fun r as ⟨e1, e2⟩ => ?_
  subst e1; subst e2
  fail "st"
  exact ⟨rfl, rfl⟩
/-! ### the law's own -/
theorem row_ev {d : Dat} (hd : Drw d) : Ev F_law_row [.ow d] (fun r as => ∃ p d', r = .ow (rD p) ∧ as = [.ow d'] ∧ Drw d' ∧ rOk p) NX := by
  unfold F_law_row
  with_reducible refine wp_mkF ?_
  unfold b_law_row
  fail "st"
  refine Ev.imp (take_ev hd (by decide) (by decide)) fun r as ⟨i, d1, e1, e2, h1, h2, h3⟩ => ?_
  subst e1; subst e2
  have t3 : ∀ {i : Int}, 0 ≤ i → i < 3 → i ∈ ([0, 1, 2] : List Int) := fun {i} a b => by
    have : i = 0 ∨ i = 1 ∨ i = 2 := by omega
    rcases this with rfl | rfl | rfl <;> simp
  have hi : i = 0 ∨ i = 1 := by omega
  rcases hi with rfl | rfl
  · fail "st"
    with_reducible refine wp_forEq (items' := [.str "a"]) ?_ ?_
    · rfl
    with_reducible refine w_forC ?_
    fail "st"
    refine Ev.imp (take_ev h1 (by decide) (by decide)) fun r as ⟨x, d2, e1, e2, g1, g2, g3⟩ => ?_
    subst e1; subst e2
    fail "st"
    show Ev (mFor _ _ _) [.ow d2, .ow (rD (x, none)), .fr (.str "a")] _ _
    with_reducible refine w_forN ?_
    fail "st"
    exact ⟨_, d2, rfl, rfl, g1, t3 g2 g3, nofun⟩
  · fail "st"
    with_reducible refine wp_forEq (items' := [.str "a", .str "b"]) ?_ ?_
    · rfl
    with_reducible refine w_forC ?_
    fail "st"
    refine Ev.imp (take_ev h1 (by decide) (by decide)) fun r as ⟨x, d2, e1, e2, g1, g2, g3⟩ => ?_
    subst e1; subst e2
    fail "st"
    show Ev (mFor _ _ _) [.ow d2, .ow (rD (x, none)), .fr (.str "a")] _ _
    with_reducible refine w_forC ?_
    fail "st"
    refine Ev.imp (take_ev g1 (by decide) (by decide)) fun r as ⟨y, d3, e1, e2, k1, k2, k3⟩ => ?_
    subst e1; subst e2
    fail "st"
    show Ev (mFor _ _ _) [.ow d3, .ow (rD (x, some y)), .fr (.str "b")] _ _
    with_reducible refine w_forN ?_
    fail "st"
    exact ⟨_, d3, rfl, rfl, k1, t3 g2 g3, fun z hz => by cases hz; exact t3 k2 k3⟩
theorem kinds_ev {l : List Row} (h : l.length ≤ 1000) : Ev F_law_kinds_of [.fr (ls l)] (fun r as => ∃ k, r = .ow (ls k) ∧ as = [.fr (ls l)]) NX := by
  unfold F_law_kinds_of
  with_reducible refine wp_mkF ?_
  unfold b_law_kinds_of
  fail "st"
  with_reducible refine wp_for (fun ds η => ∃ (xs k : List Row) (s : Sl), ds = xs.map rD ∧ η = [.fr (ls l), .ow (ls k), s] ∧ k.length + xs.length ≤ 1000) ?_ ?_ ?_
  · rintro d ds η ⟨xs, k, s, hds, rfl, h3⟩
    cases xs with
    | nil => cases hds
    | cons x xs =>
      rw [List.map_cons] at hds
      cases hds
      rw [List.length_cons] at h3
      fail "st"
      with_reducible refine w_lft (nin_ls x k) ?_
      fail "st"
      with_reducible refine w_dec (fun hm => ?_) (fun hm => ?_)
      · fail "st"
        exact ⟨xs, k, _, rfl, rfl, by omega⟩
      · fail "st"
        with_reducible refine w_owSetN (η' := ?_) rfl (app_ls (by omega)) ?_ ?_
        rotate_left
        focus (fail "nm")
        fail "st"
        exact ⟨xs, _, _, rfl, rfl, by rw [List.length_append]; simp; omega⟩
  · rintro η ⟨xs, k, s, hds, rfl, h3⟩
    fail "st"
    exact ⟨k, rfl, rfl⟩
  · exact ⟨l, [], _, rfl, rfl, by simp; omega⟩
theorem more_ev {rs os : List Row} (h1 : rs.length ≤ 100) (h2 : os.length ≤ 100) : Ev F_law_more [.fr (ls rs), .fr (ls os), .fr (ls (lessL rs os))] (fun r as => r = .fr (.bl true) ∧ as = [.fr (ls rs), .fr (ls os), .fr (ls (lessL rs os))]) NX := by
  have hl : (lessL rs os).length ≤ 100 := Nat.le_trans (lessL_sub _ _).length_le h1
  unfold F_law_more
  with_reducible refine wp_mkF ?_
  unfold b_law_more
  fail "st"
  with_reducible refine w_lft (add_ls (by omega)) ?_
  fail "st"
  with_reducible refine Ev.imp (kinds_ev (by rw [List.length_append]; omega)) fun r as ⟨k, e1, e2⟩ => ?_
  subst e1; subst e2
  fail "st"
  with_reducible refine wp_for (fun ds η => ∃ (xs : List Row) (s3 s4 : Sl), ds = xs.map rD ∧ η = [.fr (ls rs), .fr (ls os), .fr (ls (lessL rs os)), s3, s4]) ?_ ?_ ?_
  · rintro d ds η ⟨xs, s3, s4, hds, rfl⟩
    cases xs with
    | nil => cases hds
    | cons x xs =>
      rw [List.map_cons] at hds
      cases hds
      fail "st"
      with_reducible refine w_lft (cnt_ls x (lessL rs os)) ?_
      fail "st"
      with_reducible refine w_lft (cnt_ls x rs) ?_
      fail "st"
      with_reducible refine w_lft (cnt_ls x os) ?_
      fail "st"
      have e : ((List.count x (lessL rs os) : Nat) : Int) = if ((List.count x rs : Nat) : Int) - (List.count x os : Nat) > 0 then ((List.count x rs : Nat) : Int) - (List.count x os : Nat) else 0 := by
        rw [lessL_cnt]
        split <;> omega
      with_reducible refine w_decT e ?_
      fail "st"
      exact ⟨xs, _, _, rfl, rfl⟩
  · rintro η ⟨xs, s3, s4, hds, rfl⟩
    fail "st"
    with_reducible refine wp_for (fun ds η => ∃ (xs rest : List Row) (s3 : Sl), ds = xs.map rD ∧ η = [.fr (ls rs), .fr (ls os), .fr (ls (lessL rs os)), s3, .ow (ls rest)] ∧ xs.Sublist rest ∧ rest.length ≤ 100) ?_ ?_ ?_
    · rintro d ds η ⟨xs, rest, s3, hds, rfl, g1, g2⟩
      cases xs with
      | nil => cases hds
      | cons x xs =>
        rw [List.map_cons] at hds
        cases hds
        have hm : x ∈ rest := g1.subset (List.mem_cons_self ..)
        obtain ⟨j, i1, i2, i3⟩ := idx_ls hm
        fail "st"
        with_reducible refine w_lft (nin_ls x rest) ?_
        rw [decide_eq_true hm]
        fail "st"
        with_reducible refine w_lft i1 ?_
        fail "st"
        have e : cutD (List.map rD rest) (some ((j : Int) + 1)) none = (rest.drop (j + 1)).map rD := by
          have e1 : HT.sIx (List.map rD rest).length 0 (some ((j : Int) + 1)) = j + 1 := by
            rw [List.length_map]
            show HT.sIx rest.length 0 (some (((j + 1 : Nat) : Int))) = j + 1
            rw [HT.sIx_nat]; omega
          unfold cutD
          rw [e1, HT.sIx_none, List.length_map, ← List.map_drop, List.take_of_length_le (by rw [List.length_map, List.length_drop]; exact Nat.le_refl _)]
        rw [e]
        exact ⟨xs, _, _, rfl, rfl, i3 g1, by rw [List.length_drop]; omega⟩
    · rintro η ⟨xs, rest, s3, hds, rfl, g1, g2⟩
      fail "st"
      exact ⟨rfl, rfl⟩
    · exact ⟨_, rs, _, rfl, rfl, lessL_sub _ _, h1⟩
  · exact ⟨k, _, _, rfl, rfl⟩

end G

namespace G
open PySem L2 D
local macro_rules | `(tactic| fail "isj") => `(tactic| with_reducible refine w_lft isi_non_is ?_)
local macro_rules | `(tactic| fail "isj") => `(tactic| with_reducible refine w_lft isi_non_dict ?_)
local macro_rules | `(tactic| fail "isj") => `(tactic| with_reducible refine w_lft isi_non_tuple ?_)
local macro_rules | `(tactic| fail "isj") => `(tactic| with_reducible refine w_lft isi_non_list ?_)
local macro_rules | `(tactic| fail "isj") => `(tactic| with_reducible refine w_lft isi_non_str ?_)
local macro_rules | `(tactic| fail "isj") => `(tactic| with_reducible refine w_lft isi_non_int ?_)
local macro_rules | `(tactic| fail "isj") => `(tactic| with_reducible refine w_lft isi_non_bool ?_)
local macro_rules | `(tactic| fail "isj") => `(tactic| with_reducible refine w_lft isi_dic_is ?_)
local macro_rules | `(tactic| fail "isj") => `(tactic| with_reducible refine w_lft isi_dic_dict ?_)
local macro_rules | `(tactic| fail "isj") => `(tactic| with_reducible refine w_lft isi_dic_tuple ?_)
local macro_rules | `(tactic| fail "isj") => `(tactic| with_reducible refine w_lft isi_dic_list ?_)
local macro_rules | `(tactic| fail "isj") => `(tactic| with_reducible refine w_lft isi_dic_str ?_)
local macro_rules | `(tactic| fail "isj") => `(tactic| with_reducible refine w_lft isi_dic_int ?_)
local macro_rules | `(tactic| fail "isj") => `(tactic| with_reducible refine w_lft isi_dic_bool ?_)
local macro_rules | `(tactic| fail "isj") => `(tactic| with_reducible refine w_lft isi_tup_is ?_)
local macro_rules | `(tactic| fail "isj") => `(tactic| with_reducible refine w_lft isi_tup_dict ?_)
local macro_rules | `(tactic| fail "isj") => `(tactic| with_reducible refine w_lft isi_tup_tuple ?_)
local macro_rules | `(tactic| fail "isj") => `(tactic| with_reducible refine w_lft isi_tup_list ?_)
local macro_rules | `(tactic| fail "isj") => `(tactic| with_reducible refine w_lft isi_tup_str ?_)
local macro_rules | `(tactic| fail "isj") => `(tactic| with_reducible refine w_lft isi_tup_int ?_)
local macro_rules | `(tactic| fail "isj") => `(tactic| with_reducible refine w_lft isi_tup_bool ?_)
local macro_rules | `(tactic| fail "isj") => `(tactic| with_reducible refine w_lft isi_lst_is ?_)
local macro_rules | `(tactic| fail "isj") => `(tactic| with_reducible refine w_lft isi_lst_dict ?_)
local macro_rules | `(tactic| fail "isj") => `(tactic| with_reducible refine w_lft isi_lst_tuple ?_)
local macro_rules | `(tactic| fail "isj") => `(tactic| with_reducible refine w_lft isi_lst_list ?_)
local macro_rules | `(tactic| fail "isj") => `(tactic| with_reducible refine w_lft isi_lst_str ?_)
local macro_rules | `(tactic| fail "isj") => `(tactic| with_reducible refine w_lft isi_lst_int ?_)
local macro_rules | `(tactic| fail "isj") => `(tactic| with_reducible refine w_lft isi_lst_bool ?_)
local macro_rules | `(tactic| fail "isj") => `(tactic| with_reducible refine w_lft isi_bl_is ?_)
local macro_rules | `(tactic| fail "isj") => `(tactic| with_reducible refine w_lft isi_bl_dict ?_)
local macro_rules | `(tactic| fail "isj") => `(tactic| with_reducible refine w_lft isi_bl_tuple ?_)
local macro_rules | `(tactic| fail "isj") => `(tactic| with_reducible refine w_lft isi_bl_list ?_)
local macro_rules | `(tactic| fail "isj") => `(tactic| with_reducible refine w_lft isi_bl_str ?_)
local macro_rules | `(tactic| fail "isj") => `(tactic| with_reducible refine w_lft isi_bl_int ?_)
local macro_rules | `(tactic| fail "isj") => `(tactic| with_reducible refine w_lft isi_bl_bool ?_)
local macro_rules | `(tactic| fail "isj") => `(tactic| with_reducible refine w_lft isi_int_is ?_)
local macro_rules | `(tactic| fail "isj") => `(tactic| with_reducible refine w_lft isi_int_dict ?_)
local macro_rules | `(tactic| fail "isj") => `(tactic| with_reducible refine w_lft isi_int_tuple ?_)
local macro_rules | `(tactic| fail "isj") => `(tactic| with_reducible refine w_lft isi_int_list ?_)
local macro_rules | `(tactic| fail "isj") => `(tactic| with_reducible refine w_lft isi_int_str ?_)
local macro_rules | `(tactic| fail "isj") => `(tactic| with_reducible refine w_lft isi_int_int ?_)
local macro_rules | `(tactic| fail "isj") => `(tactic| with_reducible refine w_lft isi_int_bool ?_)
local macro_rules | `(tactic| fail "isj") => `(tactic| with_reducible refine w_lft isi_str_is ?_)
local macro_rules | `(tactic| fail "isj") => `(tactic| with_reducible refine w_lft isi_str_dict ?_)
local macro_rules | `(tactic| fail "isj") => `(tactic| with_reducible refine w_lft isi_str_tuple ?_)
local macro_rules | `(tactic| fail "isj") => `(tactic| with_reducible refine w_lft isi_str_list ?_)
local macro_rules | `(tactic| fail "isj") => `(tactic| with_reducible refine w_lft isi_str_str ?_)
local macro_rules | `(tactic| fail "isj") => `(tactic| with_reducible refine w_lft isi_str_int ?_)
local macro_rules | `(tactic| fail "isj") => `(tactic| with_reducible refine w_lft isi_str_bool ?_)
local macro_rules | `(tactic| fail "isi") => `(tactic| (with_reducible refine w_isIsi ?_; fail "isj"))
local macro_rules | `(tactic| fail "nm") => `(tactic| ((try dsimp only [pb_nil, pb_va, pb_io, wipeE, argS, List.map, List.append_nil, List.cons_append, List.nil_append, List.set_cons_zero, List.set_cons_succ, List.length_cons, List.length_nil, List.replicate_succ, List.replicate_zero, Nat.reduceAdd, Nat.reduceSub, Option.getD_some, List.getElem?_cons_zero, List.getElem?_cons_succ]); (exact Nm.rfl)))
local macro_rules | `(tactic| fail "s1") => `(tactic| ((fail_if_success (with_reducible refine w_isSorted ?_)); (fail_if_success (with_reducible refine w_isDict ?_)); (fail_if_success (with_reducible refine w_isToStr ?_)); (fail_if_success (with_reducible refine w_isIn ?_)); (fail_if_success (with_reducible refine w_isNotIn ?_)); (fail_if_success (with_reducible refine w_isArr ?_)); with_reducible refine w_lft rfl ?_))
local macro_rules | `(tactic| fail "s1") => `(tactic| (fail "isi"))
local macro_rules | `(tactic| fail "s1") => `(tactic| (with_reducible refine w_lenS ?c ?_; (case c => omega)))
local macro_rules | `(tactic| fail "s1") => `(tactic| (with_reducible refine w_addS ?c ?_; (case c => (simp only [Str.length_append]; omega))))
local macro_rules | `(tactic| fail "s1") => `(tactic| (with_reducible refine w_div ?c ?_; (case c => (constructor <;> omega))))
local macro_rules | `(tactic| fail "s1") => `(tactic| (with_reducible refine w_mul ?c ?_; (case c => (unfold CMul; omega))))
local macro_rules | `(tactic| fail "s1") => `(tactic| (with_reducible refine w_mod ?c (fun _ _ _ => ?_); (case c => first | decide | assumption | omega)))
local macro_rules | `(tactic| fail "s1") => `(tactic| (with_reducible refine w_fin_nx rfl ?_))
local macro_rules | `(tactic| fail "s1") => `(tactic| (with_reducible refine w_fin_ro rfl ?_))
local macro_rules | `(tactic| fail "s1") => `(tactic| (with_reducible refine w_fin_rt rfl ?_))
local macro_rules | `(tactic| fail "s1") => `(tactic| (with_reducible refine w_propF ?_))
local macro_rules | `(tactic| fail "s1") => `(tactic| (with_reducible refine w_propT ?_))
local macro_rules | `(tactic| fail "s1") => `(tactic| (with_reducible refine w_FT ?_))
local macro_rules | `(tactic| fail "s1") => `(tactic| (with_reducible refine w_TF ?_))
local macro_rules | `(tactic| fail "s1") => `(tactic| (with_reducible refine w_same ?_))
local macro_rules | `(tactic| fail "s1") => `(tactic| (with_reducible refine w_lookT ?_))
local macro_rules | `(tactic| fail "s1") => `(tactic| (with_reducible refine w_retV rfl ?_))
local macro_rules | `(tactic| fail "s1") => `(tactic| (with_reducible refine w_gnil ?_))
local macro_rules | `(tactic| fail "s1") => `(tactic| (with_reducible refine w_gcons ?_))
local macro_rules | `(tactic| fail "s1") => `(tactic| (with_reducible refine w_gtup ?_))
local macro_rules | `(tactic| fail "s1") => `(tactic| (with_reducible refine w_owSetN (η' := ?_) rfl rfl ?_ ?_; rotate_left; focus (fail "nm")))
local macro_rules | `(tactic| fail "s1") => `(tactic| (with_reducible refine w_retVON (η' := ?_) rfl ?_ ?_; rotate_left; focus (fail "nm")))
local macro_rules | `(tactic| fail "s1") => `(tactic| (with_reducible refine w_wipe (η' := ?_) ?_ ?_; rotate_left; focus (fail "nm")))
local macro_rules | `(tactic| fail "s1") => `(tactic| (with_reducible refine w_app0 (η' := ?_) ?_ ?_; rotate_left; focus (fail "nm")))
local macro_rules | `(tactic| fail "s1") => `(tactic| (with_reducible refine w_not ?_))
local macro_rules | `(tactic| fail "s1") => `(tactic| (with_reducible refine w_ifF ?_))
local macro_rules | `(tactic| fail "s1") => `(tactic| (with_reducible refine w_ifT ?_))
local macro_rules | `(tactic| fail "s1") => `(tactic| (with_reducible refine w_setON (η' := ?_) (by decide) ?_ ?_; rotate_left; focus (fail "nm")))
local macro_rules | `(tactic| fail "s1") => `(tactic| (with_reducible refine w_gsetN (η' := ?_) ?_ ?_; rotate_left; focus (fail "nm")))
local macro_rules | `(tactic| fail "s1") => `(tactic| (with_reducible refine w_setN (η' := ?_) ?_ ?_; rotate_left; focus (fail "nm")))
local macro_rules | `(tactic| fail "s1") => `(tactic| (with_reducible refine w_varO rfl ?_))
local macro_rules | `(tactic| fail "s1") => `(tactic| (with_reducible refine w_peekO rfl ?_))
local macro_rules | `(tactic| fail "s1") => `(tactic| (with_reducible refine w_peek rfl ?_))
local macro_rules | `(tactic| fail "s1") => `(tactic| (with_reducible refine w_var rfl ?_))
local macro_rules | `(tactic| fail "s1") => `(tactic| (with_reducible refine w_ret ?_))
local macro_rules | `(tactic| fail "s1") => `(tactic| (with_reducible refine w_callN (as := ?_) rfl rfl ?_ ?_; rotate_left; focus (fail "nm")))
local macro_rules | `(tactic| fail "s1") => `(tactic| (with_reducible refine w_pb (η' := ?_) ?_ ?_; rotate_left; focus (fail "nm")))
local macro_rules | `(tactic| fail "s1") => `(tactic| (with_reducible refine w_bpeekO rfl ?_))
local macro_rules | `(tactic| fail "s1") => `(tactic| (with_reducible refine w_bpeek rfl ?_))
local macro_rules | `(tactic| fail "s1") => `(tactic| (with_reducible refine w_sq ?_))
local macro_rules | `(tactic| fail "s1") => `(tactic| (with_reducible refine w_bnd ?_))
local macro_rules | `(tactic| fail "s1") => `(tactic| (with_reducible refine w_bret ?_))
local macro_rules | `(tactic| fail "s1") => `(tactic| (with_reducible refine w_bvar rfl ?_))
local macro_rules | `(tactic| fail "st") => `(tactic| repeat (fail "s1"))

local macro_rules | `(tactic| fail "lit1") => `(tactic| (with_reducible refine w_isIn ?_; with_reducible refine w_lft (a := false) (by decide +kernel) ?_))
local macro_rules | `(tactic| fail "lit1") => `(tactic| (with_reducible refine w_isIn ?_; with_reducible refine w_lft (a := true) (by decide +kernel) ?_))
local macro_rules | `(tactic| fail "lit1") => `(tactic| (with_reducible refine w_gstar1 ?_))
local macro_rules | `(tactic| fail "lit1") => `(tactic| (with_reducible refine w_decF (by decide +kernel) ?_))
local macro_rules | `(tactic| fail "lit1") => `(tactic| (with_reducible refine w_decT (by decide +kernel) ?_))
local macro_rules | `(tactic| fail "lit") => `(tactic| (fail "st"; repeat (fail "lit1"; fail "st")))

/-! ### k52: the law -/
local macro_rules | `(tactic| fail "s1") => `(tactic| (with_reducible refine w_dresL ?_))
local macro_rules | `(tactic| fail "s1") => `(tactic| (with_reducible refine w_dresD ?_))
local macro_rules | `(tactic| fail "s1") => `(tactic| (with_reducible refine w_dresR ?_))
local macro_rules | `(tactic| fail "s1") => `(tactic| (with_reducible refine w_varOL (η' := ?_) rfl ?_ ?_; rotate_left; focus (fail "nm")))
local macro_rules | `(tactic| fail "s1") => `(tactic| (with_reducible refine w_varOD (η' := ?_) rfl ?_ ?_; rotate_left; focus (fail "nm")))
theorem strip_tr : ∀ l : List Row, stripPs (l.map fun p => .own (rD p)) = l.map rD
  | [] => rfl
  | p :: l => by
    rw [List.map_cons, List.map_cons, stripPs, strip_tr l]
    congr 1
    obtain ⟨x, y⟩ := p
    cases y <;> simp [rD, stripP, stripT, stripK]
noncomputable def two (a b : List Row) : Dat := .own (.tup [.own (tr a), .own (tr b)])
theorem dfr_two (a b : List Row) : dfr (two a b) = .tup [ls a, ls b] := by
  show stripT (.tup [.own (tr a), .own (tr b)]) = _
  rw [stripT, stripPs, stripPs, stripPs, stripP, stripP, stripT, stripT, strip_tr, strip_tr]
theorem look_no {η η2 : En} {E : Xc → En → Prop} {m : M Bool} {A : M Out} (e : frz η = η2) (h : Ev m η2 (fun k _ => k = false) NX) : Ev (ifS (lookT m) A sNx) η (fun o η' => o = .nx ∧ η' = η) E := by
  refine w_bnd (w_lookT ?_)
  rw [e]
  refine h.mono (fun k _ hk => ?_) fun _ _ z => z
  subst hk
  exact wp_ret.mpr ⟨rfl, rfl⟩
theorem kill_two {a b : List Row} (ha : a.length ≤ 100) (hb : b.length ≤ 100) : kTwo (.tup [.own (tr a), .own (tr b)]) = true := by
  show (((a.map fun p => Dat.own (rD p)) ++ (b.map fun p => Dat.own (rD p))).all kRow && fits ((a.map fun p => Dat.own (rD p)).length + (b.map fun p => Dat.own (rD p)).length)) = true
  rw [Bool.and_eq_true]
  refine ⟨List.all_eq_true.mpr fun d hd => ?_, decide_eq_true (by rw [List.length_map, List.length_map]; omega)⟩
  have : ∃ p : Row, d = .own (rD p) := by
    rcases List.mem_append.mp hd with h | h <;> (obtain ⟨p, _, rfl⟩ := List.mem_map.mp h; exact ⟨p, rfl⟩)
  obtain ⟨⟨x, y⟩, rfl⟩ := this
  cases y <;> rfl
theorem law_ev {ns : List Int} (hl : ns.length ≤ 63) : Ev F_law [.fr (.scr (ns.map .int))] (fun r as => r = .fr (.bl true)) NX := by
  unfold F_law
  with_reducible refine wp_mkF ?_
  unfold b_law
  fail "st"
  refine Ev.imp (begin_ev hl) fun r as ⟨d, e1, e2, h1⟩ => ?_
  subst e1; subst e2
  with_reducible refine w_lft (ores_drw h1) ?_
  fail "st"
  with_reducible refine wp_for (fun _ η => ∃ (x a2 a3 a4 a5 a6 a7 a8 a9 : Sl) (d : Dat), η = [x, .ow d, a2, a3, a4, a5, a6, a7, a8, a9] ∧ Drw d) ?_ ?_ ?_
  · rintro dd ds η ⟨x, a2, a3, a4, a5, a6, a7, a8, a9, d, rfl, hd⟩
    with_reducible refine w_gsetN (η' := ?_) ?_ ?_
    rotate_left
    · fail "nm"
    -- the first list
    refine w_cut (fun η => ∃ (rs : List Row) (d : Dat), (∀ p ∈ rs, rOk p) ∧ rs.length ≤ 13 ∧ Drw d ∧ η = [x, .ow d, .fr dd, .ow (ls rs), a4, a5, a6, a7, a8, .no]) ?_ ?_
    · fail "st"
      refine Ev.imp (take_ev hd (by decide) (by decide)) fun r as ⟨i, d1, e1, e2, g1, g2, g3⟩ => ?_
      subst e1; subst e2
      fail "st"
      with_reducible refine w_lft (rng_ok g2 (by omega)) ?_
      with_reducible refine wp_mLc (fun acc ds η => ∃ (rs : List Row) (d : Dat), acc = rs.map rD ∧ (∀ p ∈ rs, rOk p) ∧ rs.length + ds.length ≤ 13 ∧ Drw d ∧ η = [x, .ow d, .fr dd, a3, a4, a5, a6, a7, a8, .no]) ?_ ?_ ?_ ?_
      · exact decide_eq_true (by rw [List.length_map, List.length_range]; omega)
      · rintro acc dd2 ds2 η ⟨rs, d, rfl, k1, k2, k3, rfl⟩
        rw [List.length_cons] at k2
        fail "st"
        refine Ev.imp (row_ev k3) fun r as ⟨p, d2, e1, e2, q1, q2⟩ => ?_
        subst e1; subst e2
        fail "st"
        exact ⟨rs ++ [p], d2, by rw [List.map_append]; rfl, fun q hq => (List.mem_append.mp hq).elim (k1 q) fun z => by rw [List.mem_singleton.mp z]; exact q2, by rw [List.length_append]; simp; omega, q1, rfl⟩
      · rintro acc η ⟨rs, d, rfl, k1, k2, k3, rfl⟩
        fail "st"
        exact ⟨rfl, rs, d, k1, by simpa using k2, k3, rfl⟩
      · exact ⟨[], d1, rfl, nofun, by rw [List.length_map, List.length_range]; simp; omega, g1, rfl⟩
    rintro η ⟨rs, d, hrs, lrs, hd, rfl⟩
    -- the second list
    refine w_cut (fun η => ∃ (os : List Row) (d : Dat), (∀ p ∈ os, rOk p) ∧ os.length ≤ 18 ∧ Drw d ∧ η = [x, .ow d, .fr dd, .fr (ls rs), .fr (ls os), a5, a6, a7, .no, .no]) ?_ ?_
    · fail "st"
      with_reducible refine wp_mLc (fun acc ds η => ∃ (ys xs : List Row) (d : Dat), acc = ys.map rD ∧ ds = xs.map rD ∧ (∀ p ∈ ys, rOk p) ∧ (∀ p ∈ xs, rOk p) ∧ ys.length + xs.length ≤ 13 ∧ Drw d ∧ η = [x, .ow d, .fr dd, .fr (ls rs), a4, a5, a6, a7, .no, .no]) ?_ ?_ ?_ ?_
      · exact decide_eq_true (by rw [List.length_map]; omega)
      · rintro acc dd2 ds2 η ⟨ys, xs, d, rfl, hds, k1, k4, k2, k3, rfl⟩
        cases xs with
        | nil => cases hds
        | cons y xs =>
          rw [List.map_cons] at hds
          cases hds
          rw [List.length_cons] at k2
          fail "st"
          refine Ev.imp (take_ev k3 (by decide) (by decide)) fun r as ⟨i, d1, e1, e2, g1, g2, g3⟩ => ?_
          subst e1; subst e2
          fail "st"
          have kx : ∀ p ∈ xs, rOk p := fun p hp => k4 p (List.mem_cons_of_mem _ hp)
          refine w_pdec (fun _ => ?_) (fun _ => ?_)
          · fail "st"
            exact ⟨ys ++ [y], xs, d1, by rw [List.map_append]; rfl, rfl, fun q hq => (List.mem_append.mp hq).elim (k1 q) fun z => by rw [List.mem_singleton.mp z]; exact k4 y (List.mem_cons_self ..), kx, by rw [List.length_append]; simp; omega, g1, rfl⟩
          · exact ⟨ys, xs, d1, rfl, rfl, k1, kx, by omega, g1, rfl⟩
      · rintro acc η ⟨ys, xs, d, rfl, hds, k1, k4, k2, k3, rfl⟩
        fail "st"
        refine Ev.imp (take_ev k3 (by decide) (by decide)) fun r as ⟨i, d1, e1, e2, g1, g2, g3⟩ => ?_
        subst e1; subst e2
        fail "st"
        with_reducible refine w_lft (rng_ok g2 (by omega)) ?_
        with_reducible refine wp_mLc (fun acc ds η => ∃ (zs : List Row) (d : Dat), acc = zs.map rD ∧ (∀ p ∈ zs, rOk p) ∧ zs.length + ds.length ≤ 5 ∧ Drw d ∧ η = [x, .ow d, .fr dd, .fr (ls rs), a4, a5, a6, a7, .no, .no]) ?_ ?_ ?_ ?_
        · exact decide_eq_true (by rw [List.length_map, List.length_range]; omega)
        · rintro acc dd2 ds2 η ⟨zs, d, rfl, k1, k2, k3, rfl⟩
          rw [List.length_cons] at k2
          fail "st"
          refine Ev.imp (row_ev k3) fun r as ⟨p, d2, e1, e2, q1, q2⟩ => ?_
          subst e1; subst e2
          fail "st"
          exact ⟨zs ++ [p], d2, by rw [List.map_append]; rfl, fun q hq => (List.mem_append.mp hq).elim (k1 q) fun z => by rw [List.mem_singleton.mp z]; exact q2, by rw [List.length_append]; simp; omega, q1, rfl⟩
        · rintro acc η ⟨zs, d, rfl, q1, q2, q3, rfl⟩
          fail "st"
          with_reducible refine w_lft (add_ls (by simp at q2; omega)) ?_
          fail "st"
          exact ⟨rfl, ys ++ zs, d, fun p hp => (List.mem_append.mp hp).elim (k1 p) (q1 p), by rw [List.length_append]; simp at q2; omega, q3, rfl⟩
        · exact ⟨[], d1, rfl, nofun, by rw [List.length_map, List.length_range]; simp; omega, g1, rfl⟩
      · exact ⟨[], rs, d, rfl, rfl, nofun, hrs, by simp; omega, hd, rfl⟩
    rintro η ⟨os, d, hos, los, hd, rfl⟩
    -- turned about
    refine w_cut (fun η => ∃ (os : List Row) (s4 : Sl) (d : Dat), (s4 = .fr (ls os) ∨ s4 = .ow (ls os)) ∧ (∀ p ∈ os, rOk p) ∧ os.length ≤ 18 ∧ Drw d ∧ η = [x, .ow d, .fr dd, .fr (ls rs), s4, a5, a6, a7, .no, .no]) ?_ ?_
    · fail "st"
      refine Ev.imp (take_ev hd (by decide) (by decide)) fun r as ⟨i, d1, e1, e2, g1, g2, g3⟩ => ?_
      subst e1; subst e2
      fail "st"
      refine w_dec (fun _ => ?_) (fun _ => ?_)
      · fail "st"
        rw [← List.map_reverse]
        exact ⟨rfl, os.reverse, _, d1, .inr rfl, fun p hp => hos p (List.mem_reverse.mp hp), by rw [List.length_reverse]; exact los, g1, rfl⟩
      · fail "st"
        exact ⟨rfl, os, _, d1, .inl rfl, hos, los, g1, rfl⟩
    rintro η ⟨os, s4, d, h4, hos, los, hd, rfl⟩
    obtain ⟨t, ht⟩ := two_repr hrs hos (by omega) (by omega)
    refine w_cut (fun η => η = [x, .ow d, .fr dd, .fr (ls rs), .fr (ls os), .fr (.str t), a6, a7, .no, .no]) ?_ ?_
    · rcases h4 with rfl | rfl
      · fail "st"
        with_reducible refine w_lft ht ?_
        fail "st"
        exact ⟨rfl, rfl⟩
      · fail "st"
        with_reducible refine w_lft ht ?_
        fail "st"
        exact ⟨rfl, rfl⟩
    rintro η rfl
    fail "st"
    with_reducible refine wp_for (fun _ η => ∃ (a6 a7 a8 : Sl), η = [x, .ow d, .fr dd, .fr (ls rs), .fr (ls os), .fr (.str t), a6, a7, a8, .no]) ?_ ?_ ?_
    · rintro de ds η ⟨a6, a7, a8, rfl⟩
      with_reducible refine w_gsetN (η' := ?_) ?_ ?_
      rotate_left
      · fail "nm"
      have la := (lessL_sub rs os).length_le
      have lb := (lessL_sub os rs).length_le
      refine w_cut (fun η => η = [x, .ow d, .fr dd, .fr (ls rs), .fr (ls os), .fr (.str t), .fr de, .ow (two (lessL rs os) (lessL os rs)), a8, .no]) ?_ ?_
      · fail "st"
        with_reducible refine Ev.imp (changed_ev (by omega) (by omega)) fun r as ⟨e1, e2⟩ => ?_
        subst e1; subst e2
        fail "st"
        exact ⟨rfl, rfl⟩
      rintro η rfl
      have ef : frz [x, .ow d, .fr dd, .fr (ls rs), .fr (ls os), .fr (.str t), .fr de, .ow (two (lessL rs os) (lessL os rs)), a8, .no] = [frzS x, .fr (dfr d), .fr dd, .fr (ls rs), .fr (ls os), .fr (.str t), .fr de, .fr (.tup [ls (lessL rs os), ls (lessL os rs)]), frzS a8, .no] := by
        rw [← dfr_two]; rfl
      refine w_cut (fun η => η = _) (look_no ef ?_) ?_
      · fail "st"
        rfl
      rintro η rfl
      refine w_cut (fun η => η = _) (look_no ef ?_) ?_
      · fail "st"
        with_reducible refine Ev.imp (more_ev (by omega) (by omega)) fun r as ⟨e1, e2⟩ => ?_
        subst e1; subst e2
        fail "st"
        with_reducible refine Ev.imp (more_ev (by omega) (by omega)) fun r as ⟨e1, e2⟩ => ?_
        subst e1; subst e2
        fail "st"
        rfl
      rintro η rfl
      refine w_cut (fun η => ∃ a8, η = [x, .ow d, .fr dd, .fr (ls rs), .fr (ls os), .fr (.str t), .fr de, .no, a8, .no]) ?_ ?_
      · exact wp_sKill rfl rfl (kill_two (by omega) (by omega)) ⟨rfl, _, rfl⟩
      rintro η ⟨a8, rfl⟩
      fail "st"
      with_reducible refine w_lft ht ?_
      fail "st"
      exact ⟨_, _, _, rfl⟩
    · rintro η ⟨a6, a7, a8, rfl⟩
      fail "st"
      exact ⟨_, _, _, _, _, _, _, _, _, d, rfl, hd⟩
    · exact ⟨_, _, _, rfl⟩
  · rintro η ⟨x, a2, a3, a4, a5, a6, a7, a8, a9, d, rfl, hd⟩
    fail "st"
    rfl
  · exact ⟨_, _, _, _, _, _, _, _, _, d, rfl, h1⟩
theorem law_true (ns : List Int) (hl : ns.length ≤ 63) : ∃ as', F_law [.fr (.scr (ns.map .int))] = .ok (.fr (.bl true)) as' := by
  obtain ⟨a, η', h, e⟩ := (law_ev hl).ok
  exact ⟨η', by rw [h, e]⟩

end G

namespace G
open PySem L2 D
section
variable {P : Program} {w : World} {K : PySem.W.Frag} {mg : Str → Option Value} {base : Heap} {h : Heap}
theorem txtL (X : K.In h) (G : h.Ns mainGlobals mg) (ct : He.SaysT faL fnL tsL w K) (hx : exL K = true) : Txt w K mg where
  n_dict := He.free_ok X G (ct.d.fact 9 (f := .free "dict") rfl)
  n_isinstance := He.free_ok X G (ct.d.fact 10 (f := .free "isinstance") rfl)
  n_len := He.free_ok X G (ct.d.fact 11 (f := .free "len") rfl)
  n_list := He.free_ok X G (ct.d.fact 12 (f := .free "list") rfl)
  n_max := He.free_ok X G (ct.d.fact 13 (f := .free "max") rfl)
  n_range := He.free_ok X G (ct.d.fact 14 (f := .free "range") rfl)
  n_repr := He.free_ok X G (ct.d.fact 15 (f := .free "repr") rfl)
  n_tuple := He.free_ok X G (ct.d.fact 16 (f := .free "tuple") rfl)
theorem fn_law (X : K.In h) (G : h.Ns mainGlobals mg) (ct : He.SaysT faL fnL tsL w K) (hx : exL K = true) {fd : FuncData} (F0 : FunD K "law" "law" (defArgs s_law) (defBody s_law) (defScope s_law) [] [] (He.ga K "law") fd) : RunG P w K mg base (He.ga K "law") fd "_law_script" (spD K 1 F_law) := by
  have c := ct.d
  have T := txtL X G ct hx
  obtain ⟨fd_less, D_less'⟩ := c.def_ 0 (d := D_less) rfl
  have m_less := He.glo_ok X G (c.fact 0 (f := .glo "less") rfl)
  obtain ⟨fd_turned_copy, D_turned_copy'⟩ := c.def_ 1 (d := D_turned_copy) rfl
  have m_turned_copy := He.glo_ok X G (c.fact 1 (f := .glo "turned_copy") rfl)
  obtain ⟨fd_changed, D_changed'⟩ := c.def_ 2 (d := D_changed) rfl
  have m_changed := He.glo_ok X G (c.fact 2 (f := .glo "changed") rfl)
  obtain ⟨fd_law_begin, D_law_begin'⟩ := c.def_ 3 (d := D_law_begin) rfl
  have m_law_begin := He.glo_ok X G (c.fact 3 (f := .glo "_law_begin") rfl)
  obtain ⟨fd_law_take, D_law_take'⟩ := c.def_ 4 (d := D_law_take) rfl
  have m_law_take := He.glo_ok X G (c.fact 4 (f := .glo "_law_take") rfl)
  obtain ⟨fd_law_row, D_law_row'⟩ := c.def_ 5 (d := D_law_row) rfl
  have m_law_row := He.glo_ok X G (c.fact 5 (f := .glo "_law_row") rfl)
  obtain ⟨fd_law_kinds_of, D_law_kinds_of'⟩ := c.def_ 6 (d := D_law_kinds_of) rfl
  have m_law_kinds_of := He.glo_ok X G (c.fact 6 (f := .glo "_law_kinds_of") rfl)
  obtain ⟨fd_law_more, D_law_more'⟩ := c.def_ 7 (d := D_law_more) rfl
  have m_law_more := He.glo_ok X G (c.fact 7 (f := .glo "_law_more") rfl)
  obtain ⟨fd_law, D_law'⟩ := c.def_ 8 (d := D_law) rfl
  have m_law := He.glo_ok X G (c.fact 8 (f := .glo "law") rfl)
  have g_less := ok_less (base := base) (P := P) (w := w) T  D_less'
  have h_less : Fn P w K mg base 1 "less" 2 [] F_less := Fn.mk0 D_less' g_less rfl m_less (fun _ _ _ _ _ _ us hl => match us, hl with | [_, _], _ => rfl)
  have g_turned_copy := ok_turned_copy (base := base) (P := P) (w := w) T  D_turned_copy'
  have h_turned_copy : Fn P w K mg base 1 "turned_copy" 1 [] F_turned_copy := Fn.mk0 D_turned_copy' g_turned_copy rfl m_turned_copy (fun _ _ _ _ _ _ us hl => match us, hl with | [_], _ => rfl)
  have g_changed := ok_changed (base := base) (P := P) (w := w) T h_less h_turned_copy D_changed'
  have h_changed : Fn P w K mg base 2 "changed" 2 [] F_changed := Fn.mk0 D_changed' g_changed rfl m_changed (fun _ _ _ _ _ _ us hl => match us, hl with | [_, _], _ => rfl)
  have g_law_begin := ok_law_begin (base := base) (P := P) (w := w) T  D_law_begin'
  have h_law_begin : Fn P w K mg base 1 "_law_begin" 1 [] F_law_begin := Fn.mk0 D_law_begin' g_law_begin rfl m_law_begin (fun _ _ _ _ _ _ us hl => match us, hl with | [_], _ => rfl)
  have g_law_take := ok_law_take (base := base) (P := P) (w := w) T  D_law_take'
  have h_law_take : Fn P w K mg base 1 "_law_take" 2 [] F_law_take := Fn.mk0 D_law_take' g_law_take rfl m_law_take (fun _ _ _ _ _ _ us hl => match us, hl with | [_, _], _ => rfl)
  have g_law_row := ok_law_row (base := base) (P := P) (w := w) T h_law_take D_law_row'
  have h_law_row : Fn P w K mg base 2 "_law_row" 1 [] F_law_row := Fn.mk0 D_law_row' g_law_row rfl m_law_row (fun _ _ _ _ _ _ us hl => match us, hl with | [_], _ => rfl)
  have g_law_kinds_of := ok_law_kinds_of (base := base) (P := P) (w := w) T  D_law_kinds_of'
  have h_law_kinds_of : Fn P w K mg base 1 "_law_kinds_of" 1 [] F_law_kinds_of := Fn.mk0 D_law_kinds_of' g_law_kinds_of rfl m_law_kinds_of (fun _ _ _ _ _ _ us hl => match us, hl with | [_], _ => rfl)
  have g_law_more := ok_law_more (base := base) (P := P) (w := w) T h_law_kinds_of D_law_more'
  have h_law_more : Fn P w K mg base 2 "_law_more" 3 [] F_law_more := Fn.mk0 D_law_more' g_law_more rfl m_law_more (fun _ _ _ _ _ _ us hl => match us, hl with | [_, _, _], _ => rfl)
  exact ok_law T h_law_begin h_law_take h_law_row h_changed h_law_more F0
end
theorem sp_law {K : PySem.W.Frag} {H : Hp} {a : Addr} {ns : List Int} (hS : SqL K H a (ns.map V.int)) {as' : En} (h : F_law [.fr (.scr (ns.map .int))] = .ok (.fr (.bl true)) as') : spD K 1 F_law [.ref a] H (fun v _ => v = .bl true) (fun _ _ _ => False) := by
  refine ⟨rfl, H, [.fr (.scr (ns.map .int))], ⟨Same.refl _, rfl, fun i d q => ?_, fun i d q => ?_, fun i j d e a b F G c q => ?_⟩, ?_⟩
  · match i, q with
    | 0, q => cases q; exact ⟨_, rfl, .scr hS (reps_ints ns)⟩
    | i + 1, q => simp at q
  · match i, q with
    | 0, q => cases q
    | i + 1, q => simp at q
  · match i, q with
    | 0, q => cases q
    | i + 1, q => simp at q
  · rw [h]
    intro Hf' H' σ' _ _ _ v r
    cases r; rfl
end G
open PySem PySem.W PySem.Calls PyProof.Rows
theorem PySem.Challenge.cw_logdelve_k52_what_changed_between_two_li_holds : PySem.Challenge.rw_logdelve_k52_what_changed_between_two_li.Holds := by
  w_on; o_law
  refine HandSHeadRun.head_any (r := OpenLaw.row PySem.Challenge.rw_logdelve_k52_what_changed_between_two_li) (q := view (OpenLaw.row PySem.Challenge.rw_logdelve_k52_what_changed_between_two_li).prog [10]) (H := G.hkL) (ob := G.obL) (M := 3000) (loose := G.looseL) (d := HandSHeadRun.topDef (OpenLaw.row PySem.Challenge.rw_logdelve_k52_what_changed_between_two_li).prog 10) (kwd := []) G.obL_eq
    (by kernel_rfl) (fun s => by kernel_rfl) G.runL (by kernel_rfl) (by kernel_rfl) (by kernel_rfl) (by rfl) (by first | assumption | decide +kernel) (by decide +kernel) ⟨rfl, rfl, rfl, rfl, rfl, by decide +kernel⟩ ?hw ?hc
  case hw => w_witness2
  case hc =>
    refine D.walk_ofG (l := PySem.Challenge.rw_logdelve_k52_what_changed_between_two_li) (n := 63) (x := "_law_script") rfl (by decide) (by kernel_rfl) ?F
    intro w mg fa h Y G0 hmg0
    obtain ⟨K, KX, c⟩ := Y
    have hmg : mg ("law" : PySem.Str) = some (.ref fa) := by
      have e : (HandSHeadRun.topDef (OpenLaw.row PySem.Challenge.rw_logdelve_k52_what_changed_between_two_li).prog 10).name = ("law" : PySem.Str) := by kernel_rfl
      rw [← e]
      exact hmg0
    have e := hmg.symm.trans (He.glo_ok KX G0 (c.t.d.fact 8 (f := .glo "law") rfl))
    cases e
    obtain ⟨fd0, F0⟩ := c.t.d.def_ 8 (d := G.D_law) rfl
    have b := L2.FunD.bindsA (ps := ["_law_script"]) F0 fun _ _ _ _ _ _ us hl => match us, hl with | [_], _ => rfl
    refine ⟨K, fd0, D.spD K 1 G.F_law, KX, fun s v => b s [v] rfl, fun H a ns hl hS => ?_, fun base KB GB => ?_⟩
    · obtain ⟨as', ha⟩ := G.law_true ns hl
      exact G.sp_law hS ha
    · exact G.fn_law KX G0 c.t c.more F0
