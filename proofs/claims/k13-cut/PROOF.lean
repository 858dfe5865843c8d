import PyProof.Rows.All
import Wide.All
import OpenK.AllK
import Wide.FinOn
import HandS.ForMost
import HandS.ForExc
import HandS.Deep
import HandS.TupAny
import HandS.Wide
import HandS.IsInst
import HandS.TupMul
import PyProof.StrOps2
import HandS.StrMore
import KE.KTupSum
import HandS.Strs
import KE.SortCalls
import KE.DataMinMax
import PyProof.ListStr
import PyProof.TupleOfStr
import HandS.More
import HandS.Conv
import HandS.Small
import HandS.Set
import PyProof.Rows.SetFrom
import HandS.CallSlots
import HandS.Walk
import HandS.Zip
import KE.GoesMore
import PyProof.EnumMake
import HandS.Style
import HandS.ExcIs
import HandS.HotCalls
import HandS.ExcOwn
import HandS.Defaults
import PyProof.ExcBaseAll.ValueError
import HandS.TryOnly
import HandS.HeadHook2
import HandS.HeadEnd
import HandS.Head0
import HandS.Head1
import HandS.Head2
import HandS.HeadHook1
import HandS.Ends
import PySem.Challenge.RW_piecebooks_k13_cut
set_option Elab.async false set_option linter.all false set_option maxRecDepth 100000 set_option maxHeartbeats 0
namespace PLq
open PySem L2
abbrev T := List Nat
def mkS (x : T) : Str := ⟨x.toArray⟩
theorem mkS_toList (x : T) : (mkS x).cps.toList = x := by simp [mkS]
theorem mkS_of (z : Str) : mkS z.cps.toList = z := by cases z; simp [mkS]
theorem mkS_inj {x y : T} (h : mkS x = mkS y) : x = y := by
  have := congrArg (fun z : Str => z.cps.toList) h
  simpa [mkS] using this
theorem mkS_app (x y : T) : mkS x ++ mkS y = mkS (x ++ y) := by
  show (⟨(mkS x).cps ++ (mkS y).cps⟩ : Str) = _
  simp [mkS]
theorem mkS_len (x : T) : (mkS x).length = x.length := by
  show (mkS x).cps.size = _
  simp [mkS]
inductive D where
  | non | bl (b : Bool) | int (i : Int) | str (x : T) | tup (xs : List D) | lst (xs : List D)
  | dk (kvs : List (D × D)) | scr (ns : List Int)
  | dkT (kvs : List (D × D))
inductive Ex where
  | source | book | piece | letters | word | size | text | step
  deriving DecidableEq
inductive Res (α : Type) where
  | ok (a : α) | exc (e : Ex) | stuck
@[simp] def Res.bind {α β : Type} (r : Res α) (f : α → Res β) : Res β :=
  match r with
  | .ok a => f a
  | .exc e => .exc e
  | .stuck => .stuck
abbrev Env := List (Option D)
structure KK where
  K : PySem.W.Frag
  P : Program
  w : World
instance : Coe KK PySem.W.Frag := ⟨KK.K⟩
abbrev _root_.L2.Cx.KK (X : Cx) : KK := ⟨X.K, X.prog, X.w⟩
def keyD : D → Option Key
  | .int i => some (.inl i)
  | .str x => some (.inr (mkS x))
  | _ => none
def keysL : List D → Option (List Key)
  | [] => some []
  | d :: ds => match keyD d, keysL ds with
    | some k, some ks => some (k :: ks)
    | _, _ => none
def keyT : D → Option (List Key)
  | .tup ds => keysL ds
  | _ => none
def rawT (P : Program) (w : World) (a : Addr) (xs : List (List Key × Addr × Value)) : HO := .ext fun h => (a == sysModules) = false ∧ xs.length ≤ sizeLine ∧ (xs.map (·.1)).Nodup ∧
  ∃ o es ep, h.get? a = some o ∧ o.ExactDict ∧ o.data = .dict es ep ∧ es.toList = xs.map (entryOfKey (tupleKind (mixKind P w)))
mutual
inductive Rep (K : KK) (H : Hp) : V → D → Prop
  | non : Rep K H .non .non
  | bl (b : Bool) : Rep K H (.bl b) (.bl b)
  | int (i : Int) : Rep K H (.int i) (.int i)
  | str (x : T) : Rep K H (.str (mkS x)) (.str x)
  | tup {a : Addr} {vs : List V} {ds : List D} {o : Obj} : H a = some (.frz o (.tup vs)) → o.dict = none → Reps K H vs ds → Rep K H (.ref a) (.tup ds)
  | lst {a : Addr} {vs : List V} {ds : List D} : H a = some (.lst vs) → Reps K H vs ds → Rep K H (.ref a) (.lst ds)
  | dk {a : Addr} {kvs : List (Key × V)} {ds : List (D × D)} : Rd H a (.dK kvs) → RepK K H kvs ds → Rep K H (.ref a) (.dk ds)
  | scr {a : Addr} {ns : List Int} : SqL K H a (ns.map V.int) → Rep K H (.ref a) (.scr ns)
  | dkT {a : Addr} {xs : List (List Key × Addr × Value)} {ds : List (D × D)} : H a = some (rawT K.P K.w a xs) → RepT K H xs ds → Rep K H (.ref a) (.dkT ds)
inductive Reps (K : KK) (H : Hp) : List V → List D → Prop
  | nil : Reps K H [] []
  | cons {v : V} {vs : List V} {d : D} {ds : List D} : Rep K H v d → Reps K H vs ds → Reps K H (v :: vs) (d :: ds)
inductive RepK (K : KK) (H : Hp) : List (Key × V) → List (D × D) → Prop
  | nil : RepK K H [] []
  | cons {k : Key} {v : V} {vs : List (Key × V)} {x d : D} {ds : List (D × D)} : keyD x = some k → Rep K H v d → RepK K H vs ds → RepK K H ((k, v) :: vs) ((x, d) :: ds)
inductive RepT (K : KK) (H : Hp) : List (List Key × Addr × Value) → List (D × D) → Prop
  | nil : RepT K H [] []
  | cons {ks : List Key} {b : Addr} {u : Value} {v : V} {xs : List (List Key × Addr × Value)} {x d : D} {ds : List (D × D)} : keyT x = some ks → Rep K H (.ref b) x → RelV v u → Rep K H v d → RepT K H xs ds → RepT K H ((ks, b, u) :: xs) ((x, d) :: ds)
end
section
variable {K : KK} {H H' : Hp}
theorem rd_mono (e : Same H H') {a : Addr} {u : HO} : Rd H a u → Rd H' a u
  | .inl h => .inl (e _ _ h)
  | .inr ⟨o, h⟩ => .inr ⟨o, e _ _ h⟩
theorem Same.sqL (e : Same H H') {a : Addr} {xs : List V} (h : SqL K H a xs) : SqL K H' a xs := e.seq h
mutual
theorem Rep.mono (e : Same H H') : ∀ {v : V} {d : D}, Rep K H v d → Rep K H' v d
  | _, _, .non => .non
  | _, _, .bl b => .bl b
  | _, _, .int i => .int i
  | _, _, .str x => .str x
  | _, _, .tup h n r => .tup (e _ _ h) n (Reps.mono e r)
  | _, _, .lst h r => .lst (e _ _ h) (Reps.mono e r)
  | _, _, .dk h r => .dk (rd_mono e h) (RepK.mono e r)
  | _, _, .scr h => .scr (e.seq h)
  | _, _, .dkT h r => .dkT (e _ _ h) (RepT.mono e r)
theorem Reps.mono (e : Same H H') : ∀ {vs : List V} {ds : List D}, Reps K H vs ds → Reps K H' vs ds
  | _, _, .nil => .nil
  | _, _, .cons r t => .cons (Rep.mono e r) (Reps.mono e t)
theorem RepK.mono (e : Same H H') : ∀ {vs : List (Key × V)} {ds : List (D × D)}, RepK K H vs ds → RepK K H' vs ds
  | _, _, .nil => .nil
  | _, _, .cons k r t => .cons k (Rep.mono e r) (RepK.mono e t)
theorem RepT.mono (e : Same H H') : ∀ {vs : List (List Key × Addr × Value)} {ds : List (D × D)}, RepT K H vs ds → RepT K H' vs ds
  | _, _, .nil => .nil
  | _, _, .cons k b r v t => .cons k (Rep.mono e b) r (Rep.mono e v) (RepT.mono e t)
end
theorem Reps.length : ∀ {vs : List V} {ds : List D}, Reps K H vs ds → vs.length = ds.length
  | _, _, .nil => rfl
  | _, _, .cons _ t => congrArg Nat.succ (Reps.length t)
theorem Reps.app : ∀ {vs ws : List V} {ds es : List D}, Reps K H vs ds → Reps K H ws es → Reps K H (vs ++ ws) (ds ++ es)
  | _, _, _, _, .nil, s => s
  | _, _, _, _, .cons r t, s => .cons r (Reps.app t s)
theorem Reps.get : ∀ {vs : List V} {ds : List D} {i : Nat} {d : D}, Reps K H vs ds → ds[i]? = some d → ∃ v, vs[i]? = some v ∧ Rep K H v d
  | _, _, _, _, .nil, e => by simp at e
  | _, _, 0, _, .cons r _, e => by simp at e; subst e; exact ⟨_, rfl, r⟩
  | _, _, i + 1, d, .cons _ t, e => by
    obtain ⟨v, h1, h2⟩ := Reps.get (i := i) (d := d) t (by simpa using e)
    exact ⟨v, by simpa using h1, h2⟩
theorem Reps.take : ∀ {vs : List V} {ds : List D} (n : Nat), Reps K H vs ds → Reps K H (vs.take n) (ds.take n)
  | _, _, 0, _ => by simp; exact .nil
  | _, _, _ + 1, .nil => .nil
  | _, _, n + 1, .cons r t => .cons r (Reps.take n t)
theorem Reps.drop : ∀ {vs : List V} {ds : List D} (n : Nat), Reps K H vs ds → Reps K H (vs.drop n) (ds.drop n)
  | _, _, 0, r => r
  | _, _, _ + 1, .nil => .nil
  | _, _, n + 1, .cons _ t => Reps.drop n t
theorem Reps.set {v : V} {d : D} (r : Rep K H v d) : ∀ {vs : List V} {ds : List D} (i : Nat), Reps K H vs ds → Reps K H (vs.set i v) (ds.set i d)
  | _, _, _, .nil => .nil
  | _, _, 0, .cons _ t => .cons r t
  | _, _, i + 1, .cons q t => .cons q (Reps.set r i t)
theorem Reps.eraseIdx : ∀ {vs : List V} {ds : List D} (i : Nat), Reps K H vs ds → Reps K H (vs.eraseIdx i) (ds.eraseIdx i)
  | _, _, _, .nil => .nil
  | _, _, 0, .cons _ t => t
  | _, _, i + 1, .cons q t => .cons q (Reps.eraseIdx i t)
theorem Reps.reverse : ∀ {vs : List V} {ds : List D}, Reps K H vs ds → Reps K H vs.reverse ds.reverse
  | _, _, .nil => .nil
  | _, _, .cons r t => by simp only [List.reverse_cons]; exact Reps.app (Reps.reverse t) (.cons r .nil)
theorem Reps.rep {vs : List V} {ds : List D} (h : Reps K H vs ds) : ∀ k : Nat, Reps K H (List.replicate k vs).flatten (List.replicate k ds).flatten
  | 0 => .nil
  | k + 1 => by simp only [List.replicate_succ, List.flatten_cons]; exact Reps.app h (Reps.rep h k)
theorem Reps.ints : ∀ {vs : List V} {ns : List Int}, Reps K H vs (ns.map D.int) → vs = ns.map V.int
  | _, [], .nil => rfl
  | _, _ :: _, .cons (.int _) t => by rw [Reps.ints t]; rfl
theorem Reps.of_ints : ∀ (ns : List Int), Reps K H (ns.map V.int) (ns.map D.int)
  | [] => .nil
  | n :: ns => .cons (.int n) (Reps.of_ints ns)
theorem Reps.strs : ∀ {vs : List V} {ns : List T}, Reps K H vs (ns.map D.str) → vs = ns.map fun x => V.str (mkS x)
  | _, [], .nil => rfl
  | _, _ :: _, .cons (.str _) t => by rw [Reps.strs t]; rfl
theorem Reps.of_strs : ∀ (ns : List T), Reps K H (ns.map fun x => V.str (mkS x)) (ns.map D.str)
  | [] => .nil
  | n :: ns => .cons (.str n) (Reps.of_strs ns)
theorem Reps.bls : ∀ {vs : List V} {ns : List Bool}, Reps K H vs (ns.map D.bl) → vs = ns.map V.bl
  | _, [], .nil => rfl
  | _, _ :: _, .cons (.bl _) t => by rw [Reps.bls t]; rfl
end
def hid (l : List Addr) (H : Hp) : Hp := fun a => if a ∈ l then none else H a
theorem hid_nil (H : Hp) : hid [] H = H := by funext a; simp [hid]
theorem hid_get {l : List Addr} {H : Hp} {a : Addr} {o : HO} (h : hid l H a = some o) : a ∉ l ∧ H a = some o := by
  unfold hid at h
  split at h
  · cases h
  · exact ⟨by assumption, h⟩
theorem hid_of {l : List Addr} {H : Hp} {a : Addr} {o : HO} (h1 : a ∉ l) (h : H a = some o) : hid l H a = some o := by
  unfold hid
  rw [if_neg h1]; exact h
theorem hid_same {l : List Addr} {H H' : Hp} (e : Same H H') : Same (hid l H) (hid l H') := fun a o h =>
  let ⟨h1, h2⟩ := hid_get h
  hid_of h1 (e a o h2)
theorem hid_le (l : List Addr) (H : Hp) : Same (hid l H) H := fun a o h => (hid_get h).2
theorem hid_sub {l l' : List Addr} {H : Hp} (h : ∀ a ∈ l', a ∈ l) : Same (hid l H) (hid l' H) := fun a o q =>
  let ⟨h1, h2⟩ := hid_get q
  hid_of (fun z => h1 (h a z)) h2
theorem same_upd {H : Hp} {p : Addr} {o : HO} (hp : H p = none) : Same H (upd H p o) := fun a u h => by
  rw [upd_ne (ne_of_none h hp)]; exact h
theorem hid_upd {l : List Addr} {H : Hp} {p : Addr} {o : HO} (hp : p ∈ l) : hid l (upd H p o) = hid l H := by
  funext a
  unfold hid
  split
  · rfl
  · rename_i h
    exact upd_ne fun z => h (z ▸ hp)
theorem hid_same_upd {l : List Addr} {H : Hp} {p : Addr} {o : HO} (hp : H p = none) : Same (hid l H) (hid l (upd H p o)) := hid_same (same_upd hp)
def Alk (H H' : Hp) : Prop := ∀ a o, H a = some o → H' a = some o ∨ (∃ od kvs, o = .dK kvs ∧ H' a = some (.frz od (.dK kvs))) ∨ ∃ od kvs, o = .frz od (.dK kvs) ∧ H' a = some (.dK kvs)
section
variable {K : KK} {H H' : Hp}
theorem Alk.rdD (e : Alk H H') {a : Addr} {kvs : List (Key × V)} (h : Rd H a (.dK kvs)) : Rd H' a (.dK kvs) := by
  rcases h with h | ⟨o, h⟩
  · rcases e _ _ h with q | ⟨od, k, z, q⟩ | ⟨od, k, z, q⟩
    · exact .inl q
    · cases z; exact .inr ⟨_, q⟩
    · cases z
  · rcases e _ _ h with q | ⟨od, k, z, q⟩ | ⟨od, k, z, q⟩
    · exact .inr ⟨_, q⟩
    · cases z
    · cases z; exact .inl q
theorem Alk.rdL (e : Alk H H') {a : Addr} {xs : List V} (h : Rd H a (.lst xs)) : Rd H' a (.lst xs) := by
  rcases h with h | ⟨o, h⟩
  · rcases e _ _ h with q | ⟨od, k, z, q⟩ | ⟨od, k, z, q⟩
    · exact .inl q
    · cases z
    · cases z
  · rcases e _ _ h with q | ⟨od, k, z, q⟩ | ⟨od, k, z, q⟩
    · exact .inr ⟨_, q⟩
    · cases z
    · cases z
theorem Alk.tup (e : Alk H H') {a : Addr} {o : Obj} {xs : List V} (h : H a = some (.frz o (.tup xs))) : H' a = some (.frz o (.tup xs)) := by
  rcases e _ _ h with q | ⟨od, k, z, q⟩ | ⟨od, k, z, q⟩
  · exact q
  · cases z
  · cases z
theorem Alk.lst (e : Alk H H') {a : Addr} {xs : List V} (h : H a = some (.lst xs)) : H' a = some (.lst xs) := by
  rcases e _ _ h with q | ⟨od, k, z, q⟩ | ⟨od, k, z, q⟩
  · exact q
  · cases z
  · cases z
theorem Alk.raw (e : Alk H H') {P : Program} {w : World} {a b : Addr} {xs : List (List Key × Addr × Value)} (h : H a = some (rawT P w b xs)) : H' a = some (rawT P w b xs) := by
  rcases e _ _ h with q | ⟨od, k, z, q⟩ | ⟨od, k, z, q⟩
  · exact q
  · cases z
  · cases z
theorem Alk.sqL (e : Alk H H') {a : Addr} {xs : List V} : SqL K H a xs → SqL K H' a xs
  | .inl h => .inl (e.rdL h)
  | .inr h => .inr h
mutual
theorem Rep.alk (e : Alk H H') : ∀ {v : V} {d : D}, Rep K H v d → Rep K H' v d
  | _, _, .non => .non
  | _, _, .bl b => .bl b
  | _, _, .int i => .int i
  | _, _, .str x => .str x
  | _, _, .tup h n r => .tup (e.tup h) n (Reps.alk e r)
  | _, _, .lst h r => .lst (e.lst h) (Reps.alk e r)
  | _, _, .dk h r => .dk (e.rdD h) (RepK.alk e r)
  | _, _, .scr h => .scr (e.sqL h)
  | _, _, .dkT h r => .dkT (e.raw h) (RepT.alk e r)
theorem Reps.alk (e : Alk H H') : ∀ {vs : List V} {ds : List D}, Reps K H vs ds → Reps K H' vs ds
  | _, _, .nil => .nil
  | _, _, .cons r t => .cons (Rep.alk e r) (Reps.alk e t)
theorem RepK.alk (e : Alk H H') : ∀ {vs : List (Key × V)} {ds : List (D × D)}, RepK K H vs ds → RepK K H' vs ds
  | _, _, .nil => .nil
  | _, _, .cons k r t => .cons k (Rep.alk e r) (RepK.alk e t)
theorem RepT.alk (e : Alk H H') : ∀ {vs : List (List Key × Addr × Value)} {ds : List (D × D)}, RepT K H vs ds → RepT K H' vs ds
  | _, _, .nil => .nil
  | _, _, .cons k b r v t => .cons k (Rep.alk e b) r (Rep.alk e v) (RepT.alk e t)
end
theorem Alk.hid (e : Alk H H') (l : List Addr) : Alk (hid l H) (hid l H') := fun a o h => by
  obtain ⟨h1, h2⟩ := hid_get h
  rcases e _ _ h2 with q | ⟨od, k, z, q⟩ | ⟨od, k, z, q⟩
  · exact .inl (hid_of h1 q)
  · exact .inr (.inl ⟨od, k, z, hid_of h1 q⟩)
  · exact .inr (.inr ⟨od, k, z, hid_of h1 q⟩)
theorem Alk.lock {d : Addr} {kvs : List (Key × V)} (od : Obj) (h : H d = some (.dK kvs)) : Alk H (upd H d (.frz od (.dK kvs))) := fun a o q => by
  by_cases e : a = d
  · subst e
    rw [h] at q; cases q
    exact .inr (.inl ⟨od, kvs, rfl, upd_same⟩)
  · exact .inl (by rw [upd_ne e]; exact q)
theorem Alk.unlock {d : Addr} {kvs : List (Key × V)} {od : Obj} (h : H d = some (.frz od (.dK kvs))) : Alk H (upd H d (.dK kvs)) := fun a o q => by
  by_cases e : a = d
  · subst e
    rw [h] at q; cases q
    exact .inr (.inr ⟨od, kvs, rfl, upd_same⟩)
  · exact .inl (by rw [upd_ne e]; exact q)
end
end PLq
namespace PLq
open PySem L2
inductive RepO (K : KK) (H : Hp) : Addr → HO → D → Prop
  | lst {a : Addr} {vs : List V} {ds : List D} : Reps K H vs ds → RepO K H a (.lst vs) (.lst ds)
  | dk {a : Addr} {kvs : List (Key × V)} {ds : List (D × D)} : RepK K H kvs ds → RepO K H a (.dK kvs) (.dk ds)
  | dkT {a : Addr} {xs : List (List Key × Addr × Value)} {ds : List (D × D)} : RepT K H xs ds → RepO K H a (rawT K.P K.w a xs) (.dkT ds)
theorem RepO.mono {K : KK} {H H' : Hp} (e : Same H H') {a : Addr} {o : HO} {d : D} : RepO K H a o d → RepO K H' a o d
  | .lst r => .lst (r.mono e)
  | .dk r => .dk (r.mono e)
  | .dkT r => .dkT (r.mono e)
theorem RepO.rep {K : KK} {H : Hp} {o : HO} {d : D} {a : Addr} (h : H a = some o) : RepO K H a o d → Rep K H (.ref a) d
  | .lst r => .lst h r
  | .dk r => .dk (.inl h) r
  | .dkT r => .dkT h r
inductive RepB (K : KK) (own : List Addr) (H : Hp) (v : V) (d : D) : Prop
  | safe (h : Rep K (hid own H) v d) : RepB K own H v d
  | lin {a : Addr} {o : HO} (e : v = .ref a) (ha : a ∈ own) (ho : H a = some o) (r : RepO K (hid own H) a o d) : RepB K own H v d
section
variable {K : KK} {own : List Addr} {H H' : Hp} {v : V} {d : D}
theorem RepB.mono (e : Same H H') : RepB K own H v d → RepB K own H' v d
  | .safe h => .safe (h.mono (hid_same e))
  | .lin q ha ho r => .lin q ha (e _ _ ho) (r.mono (hid_same e))
theorem RepB.rep : RepB K own H v d → Rep K H v d
  | .safe h => h.mono (hid_le own H)
  | .lin q ha ho r => by subst q; exact (r.mono (hid_le own H)).rep ho
theorem RepB.int_ {i : Int} (h : RepB K own H v (.int i)) : v = .int i := by
  cases h.rep; rfl
theorem RepB.str_ {x : T} (h : RepB K own H v (.str x)) : v = .str (mkS x) := by
  cases h.rep; rfl
theorem RepB.bl_ {b : Bool} (h : RepB K own H v (.bl b)) : v = .bl b := by
  cases h.rep; rfl
theorem RepB.non_ (h : RepB K own H v .non) : v = .non := by
  cases h.rep; rfl
theorem RepB.lst_ {ds : List D} (h : RepB K own H v (.lst ds)) : ∃ a vs, v = .ref a ∧ H a = some (.lst vs) ∧ Reps K (hid own H) vs ds := by
  cases h with
  | safe h => cases h with | lst h r => exact ⟨_, _, rfl, hid_le _ _ _ _ h, r⟩
  | lin q ha ho r => cases r with | lst r => exact ⟨_, _, q, ho, r⟩
theorem RepB.tup_ {ds : List D} (h : RepB K own H v (.tup ds)) : ∃ a vs o, v = .ref a ∧ hid own H a = some (.frz o (.tup vs)) ∧ H a = some (.frz o (.tup vs)) ∧ o.dict = none ∧ Reps K (hid own H) vs ds := by
  cases h with
  | safe h => cases h with | tup h n r => exact ⟨_, _, _, rfl, h, hid_le _ _ _ _ h, n, r⟩
  | lin q ha ho r => cases r
theorem RepB.scr_ {ns : List Int} (h : RepB K own H v (.scr ns)) : ∃ a, v = .ref a ∧ SqL K H a (ns.map V.int) := by
  cases h with
  | safe h => cases h with | scr h => exact ⟨_, rfl, (hid_le _ _).seq h⟩
  | lin q ha ho r => cases r
theorem RepB.dkT_ {ds : List (D × D)} (h : RepB K own H v (.dkT ds)) : ∃ a xs, v = .ref a ∧ H a = some (rawT K.P K.w a xs) ∧ RepT K (hid own H) xs ds := by
  cases h with
  | safe h => cases h with | dkT h r => exact ⟨_, _, rfl, hid_le _ _ _ _ h, r⟩
  | lin q ha ho r => cases r with | dkT r => exact ⟨_, _, q, ho, r⟩
theorem RepB.dk_ {ds : List (D × D)} (h : RepB K own H v (.dk ds)) : ∃ a kvs, v = .ref a ∧ Rd H a (.dK kvs) ∧ RepK K (hid own H) kvs ds := by
  cases h with
  | safe h => cases h with | dk h r => exact ⟨_, _, rfl, rd_mono (hid_le _ _) h, r⟩
  | lin q ha ho r => cases r with | dk r => exact ⟨_, _, q, .inl ho, r⟩
end
structure Gd (K : KK) (own : List Addr) (lin : List Nat) (σ : St) (H : Hp) (ρ : Env) : Prop where
  len : ρ.length = σ.length
  val : ∀ i d, ρ[i]? = some (some d) → i ∉ lin → ∃ v, σ[i]? = some (some v) ∧ Rep K (hid own H) v d
  lob : ∀ i d, ρ[i]? = some (some d) → i ∈ lin → ∃ a o, σ[i]? = some (some (.ref a)) ∧ a ∈ own ∧ H a = some o ∧ RepO K (hid own H) a o d
  sep : ∀ i j a d e, i ∈ lin → j ∈ lin → ρ[i]? = some (some d) → ρ[j]? = some (some e) → σ[i]? = some (some (.ref a)) → σ[j]? = some (some (.ref a)) → i = j
  trk : ∀ a, a ∈ own → ∃ o, H a = some o
theorem Gd.mono {K : KK} {own : List Addr} {lin : List Nat} {σ : St} {H H' : Hp} {ρ : Env} (g : Gd K own lin σ H ρ) (e : Same H H') : Gd K own lin σ H' ρ where
  len := g.len
  val := fun i d h hl => let ⟨v, h1, h2⟩ := g.val i d h hl; ⟨v, h1, h2.mono (hid_same e)⟩
  lob := fun i d h hl => let ⟨a, o, h1, h2, h3, h4⟩ := g.lob i d h hl; ⟨a, o, h1, h2, e _ _ h3, h4.mono (hid_same e)⟩
  sep := g.sep
  trk := fun a h => let ⟨o, q⟩ := g.trk a h; ⟨o, e _ _ q⟩
abbrev Wsh := Ex → St → Hp → Prop
def postE (K : KK) (W : Wsh) (own : List Addr) (σ : St) (H : Hp) (Q : VK) : Res D → Prop
  | .ok d => ∀ v H', Same H H' → Rep K (hid own H') v d → Q v H'
  | .exc e => ∀ H', Same H H' → W e σ H'
  | .stuck => False
def postB (K : KK) (W : Wsh) (own : List Addr) (σ : St) (H : Hp) (Q : VK) : Res D → Prop
  | .ok d => ∀ v H', Same H H' → RepB K own H' v d → Q v H'
  | .exc e => ∀ H', Same H H' → W e σ H'
  | .stuck => False
def postA (K : KK) (W : Wsh) (own : List Addr) (σ : St) (H : Hp) (Q : List V → Hp → Prop) : Res (List D) → Prop
  | .ok ds => ∀ vs H', Same H H' → Reps K (hid own H') vs ds → Q vs H'
  | .exc e => ∀ H', Same H H' → W e σ H'
  | .stuck => False
def postT (K : KK) (W : Wsh) (own : List Addr) (σ : St) (H : Hp) (Q : Bool → Hp → Prop) : Res D → Prop
  | .ok (.bl b) => ∀ H', Same H H' → Q b H'
  | .ok _ => False
  | .exc e => ∀ H', Same H H' → W e σ H'
  | .stuck => False
def tE (K : KK) (lin : List Nat) (W : Wsh) (f : Env → Res D) : TE := fun σ H Q => ∃ own ρ, Gd K own lin σ H ρ ∧ postE K W own σ H Q (f ρ)
def tB (K : KK) (lin : List Nat) (W : Wsh) (f : Env → Res D) : TE := fun σ H Q => ∃ own ρ, Gd K own lin σ H ρ ∧ postB K W own σ H Q (f ρ)
def tT (K : KK) (lin : List Nat) (W : Wsh) (f : Env → Res D) : TT := fun σ H Q => ∃ own ρ, Gd K own lin σ H ρ ∧ postT K W own σ H Q (f ρ)
def tAs (K : KK) (lin : List Nat) (W : Wsh) (f : Env → Res (List D)) : TA := fun σ H Q => ∃ own ρ, Gd K own lin σ H ρ ∧ postA K W own σ H Q (f ρ)
theorem _root_.L2.PE.imp {X : Cx} {e : Expr} {t t' : TE} (h : PE X e t) (i : ∀ σ H Q, t' σ H Q → t σ H Q) : PE X e t' := ⟨fun pins s σ H Q I q => h.run pins s σ H Q I (i σ H Q q)⟩
theorem _root_.L2.PT.imp {X : Cx} {e : Expr} {t t' : TT} (h : PT X e t) (i : ∀ σ H Q, t' σ H Q → t σ H Q) : PT X e t' := ⟨fun pins s σ H Q I q => h.run pins s σ H Q I (i σ H Q q)⟩
theorem _root_.L2.PA.imp {X : Cx} {e : List Expr} {t t' : TA} (h : PA X e t) (i : ∀ σ H Q, t' σ H Q → t σ H Q) : PA X e t' := ⟨fun pos pins s σ H Q I q => h.run pos pins s σ H Q I (i σ H Q q)⟩
theorem _root_.L2.PS.imp {X : Cx} {e : Stmt} {t t' : TS} (h : PS X e t) (i : ∀ D σ H, t' D σ H → t D σ H) : PS X e t' := ⟨fun pins s σ H D I q => h.run pins s σ H D I (i D σ H q)⟩
theorem _root_.L2.PSs.imp {X : Cx} {e : List Stmt} {t t' : TS} (h : PSs X e t) (i : ∀ D σ H, t' D σ H → t D σ H) : PSs X e t' := ⟨fun pins s σ H D I q => h.run pins s σ H D I (i D σ H q)⟩
section
variable {K : KK} {lin : List Nat} {W : Wsh} {f g : Env → Res D} {σ : St} {H : Hp} {Q : VK} {own : List Addr} {ρ : Env}
theorem tB_tE (h : tB K lin W f σ H Q) : tE K lin W f σ H Q := by
  obtain ⟨own, ρ, g, p⟩ := h
  refine ⟨own, ρ, g, ?_⟩
  cases q : f ρ with
  | ok d => rw [q] at p; exact fun v H' s r => p v H' s (.safe r)
  | exc e => rw [q] at p; exact p
  | stuck => rw [q] at p; exact p
theorem PEB {X : Cx} {e : Expr} (h : PE X e (tE X.KK lin W f)) : PE X e (tB X.KK lin W f) := h.imp fun _ _ _ => tB_tE
theorem stepB (G : Gd K own lin σ H ρ) (ok : ∀ d v H1, f ρ = .ok d → Same H H1 → RepB K own H1 v d → Q v H1) (ex : ∀ e H1, f ρ = .exc e → Same H H1 → W e σ H1) (st : f ρ ≠ .stuck) : tB K lin W f σ H Q := by
  refine ⟨own, ρ, G, ?_⟩
  cases q : f ρ with
  | ok d => exact fun v H' s r => ok d v H' q s r
  | exc e => exact fun H' s => ex e H' q s
  | stuck => exact st q
theorem stepE (G : Gd K own lin σ H ρ) (ok : ∀ d v H1, f ρ = .ok d → Same H H1 → Rep K (hid own H1) v d → Q v H1) (ex : ∀ e H1, f ρ = .exc e → Same H H1 → W e σ H1) (st : f ρ ≠ .stuck) : tE K lin W f σ H Q := by
  refine ⟨own, ρ, G, ?_⟩
  cases q : f ρ with
  | ok d => exact fun v H' s r => ok d v H' q s r
  | exc e => exact fun H' s => ex e H' q s
  | stuck => exact st q
theorem stepA {f : Env → Res (List D)} {Q : List V → Hp → Prop} (G : Gd K own lin σ H ρ) (ok : ∀ d v H1, f ρ = .ok d → Same H H1 → Reps K (hid own H1) v d → Q v H1) (ex : ∀ e H1, f ρ = .exc e → Same H H1 → W e σ H1) (st : f ρ ≠ .stuck) : tAs K lin W f σ H Q := by
  refine ⟨own, ρ, G, ?_⟩
  cases q : f ρ with
  | ok d => exact fun v H' s r => ok d v H' q s r
  | exc e => exact fun H' s => ex e H' q s
  | stuck => exact st q
end
def ofO {α : Type} : Option α → Res α
  | some a => .ok a
  | none => .stuck
def un (h : D → Option D) (f : Env → Res D) : Env → Res D := fun ρ => (f ρ).bind fun d => ofO (h d)
def bin (h : D → D → Option D) (f g : Env → Res D) : Env → Res D := fun ρ => (f ρ).bind fun d => (g ρ).bind fun e => ofO (h d e)
def Serves2 (K : KK) (r : R2) (h : D → D → Option D) : Prop :=
  ∀ own H x y d e z Q, (∀ a, a ∈ own → ∃ o, H a = some o) → RepB K own H x d → RepB K own H y e → h d e = some z → (∀ v H', Same H H' → Rep K (hid own H') v z → Q v H') → r x y H Q
def Serves1 (K : KK) (r : V → Hp → VK → Prop) (h : D → Option D) : Prop :=
  ∀ own H x d z Q, (∀ a, a ∈ own → ∃ o, H a = some o) → RepB K own H x d → h d = some z → (∀ v H', Same H H' → Rep K (hid own H') v z → Q v H') → r x H Q
section
variable {K : KK} {lin : List Nat} {W : Wsh} {f g : Env → Res D} {h : D → D → Option D} {h1 : D → Option D} {r : R2} {r1 : V → Hp → VK → Prop}
theorem Res.bind_ok {α β : Type} {r : Res α} {f : α → Res β} {a : α} (h : r = .ok a) : r.bind f = f a := by rw [h]; rfl
theorem tOp_of (s : Serves2 K r h) (σ : St) (H : Hp) (Q : VK) (t : tE K lin W (bin h f g) σ H Q) : tOp r (tB K lin W f) (tB K lin W g) σ H Q := by
  obtain ⟨own, ρ, G, p⟩ := t
  unfold bin at p
  refine stepB G (fun d x H1 q1 s1 r1 => ?_) (fun e H1 q s1 => ?_) (fun q => ?_)
  · rw [q1] at p
    refine stepB (G.mono s1) (fun e y H2 q2 s2 r2 => ?_) (fun e H2 q s2 => ?_) (fun q => ?_)
    · simp only [Res.bind, q2] at p
      cases q3 : h d e with
      | none => rw [q3] at p; exact p.elim
      | some z =>
        rw [q3] at p
        exact s own H2 x y d e z Q ((G.mono (s1.trans s2)).trk) (r1.mono s2) r2 q3 fun v H3 s3 r3 => p v H3 ((s1.trans s2).trans s3) r3
    · simp only [Res.bind, q] at p
      exact p H2 (s1.trans s2)
    · simp only [Res.bind, q] at p
      exact p
  · rw [q] at p
    exact p H1 s1
  · rw [q] at p
    exact p
theorem tUn_of (s : Serves1 K r1 h1) (σ : St) (H : Hp) (Q : VK) (t : tE K lin W (un h1 f) σ H Q) : tUn r1 (tB K lin W f) σ H Q := by
  obtain ⟨own, ρ, G, p⟩ := t
  unfold un at p
  refine stepB G (fun d x H1 q1 s1 r1 => ?_) (fun e H1 q s1 => ?_) (fun q => ?_)
  · rw [q1] at p
    simp only [Res.bind] at p
    cases q3 : h1 d with
    | none => rw [q3] at p; exact p.elim
    | some z =>
      rw [q3] at p
      exact s own H1 x d z Q (G.mono s1).trk r1 q3 fun v H3 s3 r3 => p v H3 (s1.trans s3) r3
  · rw [q] at p
    exact p H1 s1
  · rw [q] at p
    exact p
end
end PLq
namespace PLq
open PySem L2
def szL : Nat := 16777216
theorem szL_eq : szL = sizeLine := by rw [sizeLine_eq]; rfl
def addD : D → D → Option D
  | .int i, .int j => some (.int (i + j))
  | .str x, .str y => if x.length + y.length ≤ szL then some (.str (x ++ y)) else none
  | .lst x, .lst y => if x.length + y.length ≤ szL then some (.lst (x ++ y)) else none
  | .tup x, .tup y => if x.length + y.length ≤ szL then some (.tup (x ++ y)) else none
  | _, _ => none
def subD : D → D → Option D
  | .int i, .int j => some (.int (i - j))
  | _, _ => none
def mulD : D → D → Option D
  | .int i, .int j => if i.natAbs.log2 + j.natAbs.log2 < 1000000 then some (.int (i * j)) else none
  | .lst x, .int k => if 0 ≤ k ∧ k < 4096 ∧ x.length * k.toNat ≤ szL then some (.lst (List.replicate k.toNat x).flatten) else none
  | .tup x, .int k => if x.isEmpty = false ∧ 2 ≤ k ∧ k ≤ 1000 ∧ x.length ≤ 1000 then some (.tup (List.replicate k.toNat x).flatten) else none
  | .str x, .int k => if 0 ≤ k ∧ k ≤ 1000 ∧ x.length ≤ 1000 then some (.str (List.replicate k.toNat x).flatten) else none
  | _, _ => none
def modD : D → D → Option D
  | .int i, .int j => if 0 < j then some (.int (i % j)) else none
  | _, _ => none
def divD : D → D → Option D
  | .int i, .int j => if 0 < j ∧ j.natAbs.log2 < 9000 then some (.int (i / j)) else none
  | _, _ => none
def negD : D → Option D
  | .int i => some (.int (-i))
  | _ => none
mutual
def toPy : D → PyData
  | .non => .none
  | .bl b => .bool b
  | .int i => .int i
  | .str x => .str (mkS x)
  | .tup xs => .tuple (toPys xs)
  | .lst xs => .list (toPys xs)
  | .dk _ => .dict []
  | .dkT _ => .dict []
  | .scr ns => .list (ns.map PyData.int)
def toPys : List D → List PyData
  | [] => []
  | d :: ds => toPy d :: toPys ds
end
def eqD (a b : D) : Bool := PyData.eqv (toPy a) (toPy b)
def fine (a : D) : Bool := SeqAt.shaped (toPy a)
def ltT (x y : T) : Bool := decide (x < y)
inductive Cmp where
  | lt | le | gt | ge | eq | ne | is | isn | in_ | nin
  deriving DecidableEq
def Cmp.op : Cmp → CmpOp
  | .lt => .Lt | .le => .LtE | .gt => .Gt | .ge => .GtE | .eq => .Eq | .ne => .NotEq | .is => .Is | .isn => .IsNot | .in_ => .In | .nin => .NotIn
def flatD : D → Bool
  | .non | .bl _ | .int _ | .str _ => true
  | _ => false
def dget (kvs : List (D × D)) (d : D) : Option D := match keyD d with
  | some k => (kvs.find? fun p => decide (keyD p.1 = some k)).map (·.2)
  | none => none
def inD (x : D) : D → Option Bool
  | .str z => match x with
    | .str [c] => some (decide (c ∈ z))
    | _ => none
  | .tup ds => if flatD x && ds.all flatD then some (ds.any fun z => eqD z x) else none
  | .lst ds => if fine x && fine (.lst ds) then some (ds.any fun z => eqD z x) else none
  | .dk kvs => if (keyD x).isSome then some (dget kvs x).isSome else none
  | _ => none
def isNonD : D → Bool
  | .non => true
  | _ => false
def cmpD (c : Cmp) (a b : D) : Option D :=
  match c with
  | .lt => match a, b with
    | .int i, .int j => some (.bl (decide (i < j)))
    | .str x, .str y => some (.bl (ltT x y))
    | _, _ => none
  | .le => match a, b with
    | .int i, .int j => some (.bl (decide (i ≤ j)))
    | .str x, .str y => some (.bl (!ltT y x))
    | _, _ => none
  | .gt => match a, b with
    | .int i, .int j => some (.bl (decide (j < i)))
    | .str x, .str y => some (.bl (ltT y x))
    | _, _ => none
  | .ge => match a, b with
    | .int i, .int j => some (.bl (decide (j ≤ i)))
    | .str x, .str y => some (.bl (!ltT x y))
    | _, _ => none
  | .eq => if fine a && fine b then some (.bl (eqD a b)) else none
  | .ne => if fine a && fine b then some (.bl (!eqD a b)) else none
  | .is => match b with
    | .non => some (.bl (isNonD a))
    | _ => none
  | .isn => match b with
    | .non => some (.bl (!isNonD a))
    | _ => none
  | .in_ => (inD a b).map D.bl
  | .nin => (inD a b).map fun k => D.bl (!k)
section
variable {K : KK}
theorem ints_dp {H : Hp} : ∀ ns : List Int, DpAll K H (ns.map V.int) (ns.map PyData.int)
  | [] => .nil
  | n :: ns => .cons (.int n) (ints_dp ns)
mutual
theorem Rep.dp {H : Hp} : ∀ {v : V} {d : D}, Rep K H v d → (toPy d).canLay0 = true → Dp K H v (toPy d)
  | _, _, .non, _ => .non
  | _, _, .bl b, _ => .bl b
  | _, _, .int i, _ => .int i
  | _, _, .str x, _ => .str _
  | _, _, .tup h _ r, c => .tup (.inl (.inr ⟨_, h⟩)) (Reps.dp r (by simpa [toPy, PyData.canLay0] using c))
  | _, _, .lst h r, c => .lst (.of h) (Reps.dp r (by simpa [toPy, PyData.canLay0] using c))
  | _, _, .dk _ _, c => by simp [toPy, PyData.canLay0] at c
  | _, _, .dkT _ _, c => by simp [toPy, PyData.canLay0] at c
  | _, _, .scr (ns := ns) h, _ => by
    refine .lst h ?_
    exact ints_dp ns
theorem Reps.dp {H : Hp} : ∀ {vs : List V} {ds : List D}, Reps K H vs ds → PyData.canLayAll0 (toPys ds) = true → DpAll K H vs (toPys ds)
  | _, _, .nil, _ => .nil
  | _, _, .cons r t, c => by
    simp only [toPys, PyData.canLayAll0, Bool.and_eq_true] at c
    exact .cons (Rep.dp r c.1) (Reps.dp t c.2)
end
theorem RepB.dp {own : List Addr} {H : Hp} {v : V} {d : D} (r : RepB K own H v d) (f : fine d = true) : Dp K H v (toPy d) := r.rep.dp (SeqAt.canLay_of_shaped f)
theorem own_ne {own : List Addr} {H : Hp} {p : Addr} (tr : ∀ a, a ∈ own → ∃ o, H a = some o) (hp : H p = none) : p ∉ own := fun h => by
  obtain ⟨o, e⟩ := tr p h
  rw [hp] at e; cases e
theorem Rep.new_lst {own : List Addr} {H : Hp} {p : Addr} {vs : List V} {ds : List D} (tr : ∀ a, a ∈ own → ∃ o, H a = some o) (hp : H p = none) (r : Reps K (hid own H) vs ds) :
    Same H (upd H p (.lst vs)) ∧ Rep K (hid own (upd H p (.lst vs))) (.ref p) (.lst ds) :=
  ⟨same_upd hp, .lst (hid_of (own_ne tr hp) upd_same) (r.mono (hid_same_upd hp))⟩
theorem Rep.new_tup {own : List Addr} {H : Hp} {p : Addr} {vs : List V} {ds : List D} {o : Obj} (tr : ∀ a, a ∈ own → ∃ o, H a = some o) (hp : H p = none) (ho : o.dict = none) (r : Reps K (hid own H) vs ds) :
    Same H (upd H p (.frz o (.tup vs))) ∧ Rep K (hid own (upd H p (.frz o (.tup vs)))) (.ref p) (.tup ds) :=
  ⟨same_upd hp, .tup (hid_of (own_ne tr hp) upd_same) ho (r.mono (hid_same_upd hp))⟩
def rCatF (K : KK) : R2 := fun x y H Q => ∃ a b xs ys, x = .ref a ∧ y = .ref b ∧ SqT K H a xs ∧ SqT K H b ys ∧ xs.length + ys.length ≤ sizeLine ∧
  (xs = [] → Q (.ref b) H) ∧ (xs ≠ [] → ys = [] → Q (.ref a) H) ∧ (xs ≠ [] → ys ≠ [] → ∀ p o, H p = none → o.dict = none → Q (.ref p) (upd H p (.frz o (.tup (xs ++ ys)))))
theorem op_catF {X : Cx} : OpR X (binaryOp .Add) (rCatF X.KK) := by
  intro pins s σ H x y v u Q I rx ry h
  obtain ⟨a, b, xs, ys, rfl, rfl, ha, hb, hz, q0, q1, q2⟩ := h
  cases rx
  cases ry
  obtain ⟨its, r1, p1, _⟩ := I.tuple ha
  obtain ⟨its2, r2, p2, _⟩ := I.tuple hb
  by_cases hx : xs = []
  · subst hx
    cases r1
    exact cat_tup0 p1 p2 ⟨.ref b, H, I, rfl, q0 rfl⟩
  · refine HT.cat_tup p1 p2 (fun z => hx (r1.nil_iff.mp z)) (fun z => ⟨.ref a, H, I, rfl, q1 hx (r2.nil_iff.mp z)⟩) (fun z => ?_) (by rw [← r1.length, ← r2.length]; exact hz)
    refine ⟨.ref s.heap.objs.size, _, I.laid (t' := s.toks) (o := .frz { cls := .type "tuple", data := .seq (its ++ its2).toArray } (.tup (xs ++ ys))) (fun b ob q => Heap.get?_push_of_some _ q) (Nat.le_refl _) ?_, rfl, q2 hx (fun w => z (r2.nil_iff.mpr w)) _ _ (I.hok.fresh (Nat.le_refl _)) rfl⟩
    exact ⟨Heap.get?_push_size _ rfl, by rw [List.length_append]; exact hz, _, r1.append r2, PyProof.Rows.IsTup.new _ _⟩
def tTupF (t : TA) : TE := fun σ H Q => t σ H fun xs H1 => xs.length ≤ sizeLine ∧ ∀ p o, H1 p = none → o.dict = none → Q (.ref p) (upd H1 p (.frz o (.tup xs)))
theorem pe_tupF {X : Cx} {es : List Expr} {t : TA} {pos : Pos} {x1} (h : PA X es t) : PE X (.Tuple es x1 pos) (tTupF t) := by
  refine ⟨fun pins s σ H Q I hq => ?_⟩
  refine wpAny_Tuple_spliced (thn (h.run pos pins s σ H _ I hq) fun us s1 ⟨xs, H1, I1, r, z, q⟩ => ⟨by rw [← r.length]; exact z, ?_⟩)
  have hf : H1 s1.heap.objs.size = none := I1.hok.fresh (Nat.le_refl _)
  refine ⟨.ref s1.heap.objs.size, upd H1 s1.heap.objs.size (.frz { cls := .type "tuple", data := .seq us.toArray } (.tup xs)), I1.laid (t' := s1.toks) (fun b u e => Heap.get?_push_of_some _ e) (Nat.le_refl _) ?_, rfl, q _ _ hf rfl⟩
  exact ⟨Heap.get?_push_size _ rfl, z, us, r, ⟨_, Heap.get?_push_size _ rfl, rfl, _, rfl⟩⟩
abbrev rAdds (K : KK) : R2 := fun x y H Q => rI0 (fun i j => .int (i + j)) x y H Q ∨ ((∃ i j, x = .str i ∧ y = .str j ∧ i.length + j.length ≤ sizeLine ∧ Q (.str (i ++ j)) H) ∨ (rCat x y H Q ∨ rCatF K x y H Q))
theorem op_adds {X : Cx} : OpR X (binaryOp .Add) (rAdds X.KK) := op_add.or (op_add_str.or (op_cat.or op_catF))
theorem s_add : Serves2 K (rAdds K) addD := by
  intro own H x y d e z Q tr hx hy hz q
  unfold addD at hz
  split at hz
  · cases hz; cases hx.int_; cases hy.int_
    exact .inl ⟨_, _, rfl, rfl, q _ _ (Same.refl _) (.int _)⟩
  · split at hz
    · cases hz; cases hx.str_; cases hy.str_
      rename_i hl
      refine .inr (.inl ⟨_, _, rfl, rfl, by rw [mkS_len, mkS_len, ← szL_eq]; exact hl, ?_⟩)
      rw [mkS_app]
      exact q _ _ (Same.refl _) (.str _)
    · cases hz
  · split at hz
    · cases hz
      rename_i hl
      obtain ⟨a, vs, rfl, ha, ra⟩ := hx.lst_
      obtain ⟨b, ws, rfl, hb, rb⟩ := hy.lst_
      refine .inr (.inr (.inl ⟨_, _, _, _, rfl, rfl, ha, hb, by rw [ra.length, rb.length, ← szL_eq]; exact hl, fun p hp => ?_⟩))
      obtain ⟨s, r⟩ := Rep.new_lst tr hp (ra.app rb)
      exact q _ _ s r
    · cases hz
  · split at hz
    · cases hz
      rename_i hl
      obtain ⟨a, vs, oa, rfl, ha', ha, na, ra⟩ := hx.tup_
      obtain ⟨b, ws, ob, rfl, hb', hb, nb, rb⟩ := hy.tup_
      refine .inr (.inr (.inr ⟨_, _, _, _, rfl, rfl, .inl (.inr ⟨_, ha⟩), .inl (.inr ⟨_, hb⟩), by rw [ra.length, rb.length, ← szL_eq]; exact hl, fun e0 => ?_, fun _ e0 => ?_, fun _ _ p o hp ho => ?_⟩))
      · subst e0; cases ra
        exact q _ _ (Same.refl _) (.tup hb' nb rb)
      · subst e0; cases rb
        refine q _ _ (Same.refl _) (.tup ha' na ?_)
        rw [List.append_nil]; exact ra
      · obtain ⟨s, r⟩ := Rep.new_tup tr hp ho (ra.app rb)
        exact q _ _ s r
    · cases hz
  · cases hz
abbrev rSubs : R2 := rI0 fun i j => .int (i - j)
theorem s_sub : Serves2 K rSubs subD := by
  intro own H x y d e z Q tr hx hy hz q
  unfold subD at hz
  split at hz
  · cases hz; cases hx.int_; cases hy.int_
    exact ⟨_, _, rfl, rfl, q _ _ (Same.refl _) (.int _)⟩
  · cases hz
def rRepTF (K : KK) : R2 := fun x y H Q => ∃ l k xs, x = .ref l ∧ y = .int k ∧ SqT K H l xs ∧ xs ≠ [] ∧ 2 ≤ k ∧ k ≤ 1000 ∧ xs.length ≤ 1000 ∧ ∀ p o, H p = none → o.dict = none → Q (.ref p) (upd H p (.frz o (.tup (List.replicate k.toNat xs).flatten)))
theorem op_repTF {X : Cx} : OpR X (binaryOp .Mult) (rRepTF X.KK) := by
  intro pins s σ H x y v u Q I rx ry h
  obtain ⟨l, k, xs, e1, e2, hT, hne, h1, h2, hz, q⟩ := h
  subst e1 e2
  cases rx
  obtain ⟨t, et⟩ := ry
  subst et
  obtain ⟨its, r, ⟨⟨cls, dd, data, sl⟩, ho, hc, n, hd⟩, hs⟩ := I.tuple hT
  simp only at hc hd
  subst hc hd
  have hle : its.length = xs.length := r.length.symm
  have hi : its.toArray.isEmpty = false := by
    cases its with
    | nil => exact absurd (List.eq_nil_of_length_eq_zero hle.symm) hne
    | cons a b => rfl
  have hsz0 : its.toArray.size = xs.length := by rw [List.size_toArray, hle]
  have hm : ((its.toArray.size : Nat) : Int) * k ≤ 1000000 := by
    rw [hsz0]
    have a1 : ((xs.length : Nat) : Int) * k ≤ 1000 * k := Int.mul_le_mul_of_nonneg_right (by omega) (by omega)
    omega
  have a2 : k.toNat * xs.length ≤ 1000 * 1000 := Nat.mul_le_mul (by omega) hz
  have flen : (List.replicate k.toNat its).flatten.length ≤ sizeLine := by rw [PyProof.Rows.lm_len_rep_flat, hle, sizeLine_eq]; omega
  have ci : (k == 1) = false := beq_eq_false_iff_ne.mpr (by omega)
  have cm : Builtin.Tuple.tupleTooMany (((its.toArray.size : Nat) : Int) * k) = false := by unfold Builtin.Tuple.tupleTooMany; rw [sizeLine_eq]; exact decide_eq_false (by omega)
  refine wpAny_binaryOp_repeat_ref (T := "tuple") (U := "int") (by decide) ⟨_, ho, rfl⟩ (fun s' => typeIs_int s' k t) noFill_tuple_mul F.fills_int_mul F.slot_int_rmul repeat_tuple F.slot_int_index.lookup (call_meets F.slot_int_rmul (typeIs_int s k t) F.entry_int_rmul (F.args_int_rmul_2 _ _) (int_rmul_tuple k t l its.toArray n dd sl)
      ⟨ho, rfl, ⟨_, ho, rfl⟩, call_meets F.slot_tuple_mul ⟨_, ho, rfl⟩ F.entry_tuple_mul (F.args_tuple_mul_2 _ _) (tuple_mulW l its.toArray n dd sl k t (by rw [decide_eq_false (by omega), decide_eq_false (by omega)]; rfl) (by rw [hi, ci]; rfl) (by rw [hi, decide_eq_false (by omega)]; rfl) (by omega) cm (by rw [size_rep, List.size_toArray]; exact flen)) ⟨ho, ?_⟩⟩)
  rw [size_rep]
  refine ⟨.ref s.heap.objs.size, _, I.laid (t' := s.toks) (o := .frz { cls := Value.type "tuple", data := Data.seq (List.replicate k.toNat its).flatten.toArray } (.tup (List.replicate k.toNat xs).flatten)) (fun b ob q => Heap.get?_push_of_some _ q) (Nat.le_refl _) ?_, rfl, q _ _ (I.hok.fresh (Nat.le_refl _)) rfl⟩
  exact ⟨Heap.get?_push_size _ rfl, by rw [PyProof.Rows.lm_len_rep_flat, sizeLine_eq]; omega, _, r.rep k.toNat, PyProof.Rows.IsTup.new _ _⟩
def rRepS : R2 := fun x y H Q => ∃ (z : T) (k : Int), x = .str (mkS z) ∧ y = .int k ∧ 0 ≤ k ∧ k ≤ 1000 ∧ z.length ≤ 1000 ∧ Q (.str (mkS (List.replicate k.toNat z).flatten)) H
theorem rep_str (z : T) : ∀ (n : Nat) (acc : Array Nat), (List.replicate n z.toArray).foldl (· ++ ·) acc = acc ++ (List.replicate n z).flatten.toArray
  | 0, acc => by simp
  | n + 1, acc => by
    rw [List.replicate_succ, List.foldl_cons, rep_str z n, List.replicate_succ, List.flatten_cons]
    simp [Array.append_assoc]
theorem op_repS {X : Cx} : OpR X (binaryOp .Mult) rRepS := by
  intro pins s σ H x y v u Q I rx ry h
  obtain ⟨z, k, e1, e2, h0, h1, hz, q⟩ := h
  subst e1 e2
  obtain ⟨t, et⟩ := rx
  obtain ⟨t', et'⟩ := ry
  subst et et'
  have hlen : (mkS z).length = z.length := mkS_len z
  have a2 : z.length * k.toNat ≤ 1000 * 1000 := Nat.mul_le_mul hz (by omega)
  refine PySem.P.mul_str (by rw [decide_eq_false (by omega), decide_eq_false (by omega)]; rfl) (fun c1 c2 => ?_) (fun c1 c2 => ?_) ?_
  · rw [hlen]
    have : (1000 : Int) ≤ (2 ^ 63 - 1) / k := by
      have hk : 0 < k := by omega
      rw [Int.le_ediv_iff_mul_le hk]
      omega
    omega
  · rw [hlen]
    exact decide_eq_false (by have := sizeLine_eq; omega)
  · split
    · rename_i c
      have hk : k.toNat = 0 := by omega
      rw [hk] at q
      exact ⟨by decide, .str _, H, I.tok _, ⟨_, rfl⟩, q⟩
    · split
      · rename_i c c2
        have e : (List.replicate k.toNat z).flatten = z := by
          rcases Bool.or_eq_true_iff.mp c2 with c2 | c2
          · have : k = 1 := by simpa using c2
            subst this; simp
          · rw [hlen] at c2
            have : z = [] := List.eq_nil_of_length_eq_zero (by simpa using c2)
            subst this; simp
        rw [e] at q
        exact ⟨.str _, H, I, ⟨t, rfl⟩, q⟩
      · have e : (⟨(List.replicate k.toNat (mkS z).cps).foldl (· ++ ·) #[]⟩ : Str) = mkS (List.replicate k.toNat z).flatten := by
          show (⟨(List.replicate k.toNat z.toArray).foldl (· ++ ·) #[]⟩ : Str) = _
          rw [rep_str]; simp [mkS]
        rw [e]
        exact ⟨by rw [mkS_len, PyProof.Rows.lm_len_rep_flat, sizeLine_eq, Nat.mul_comm]; omega, .str _, H, I.tok _, ⟨_, rfl⟩, q⟩
abbrev rMuls (K : KK) : R2 := fun x y H Q => rI CMulW (fun i j => .int (i * j)) x y H Q ∨ (rRep x y H Q ∨ (rRepTF K x y H Q ∨ rRepS x y H Q))
theorem op_muls {X : Cx} : OpR X (binaryOp .Mult) (rMuls X.KK) := op_mulW.or (op_rep.or (op_repTF.or op_repS))
theorem s_mul : Serves2 K (rMuls K) mulD := by
  intro own H x y d e z Q tr hx hy hz q
  unfold mulD at hz
  split at hz
  · split at hz
    · cases hz; cases hx.int_; cases hy.int_
      rename_i hl
      exact .inl ⟨_, _, rfl, rfl, hl, q _ _ (Same.refl _) (.int _)⟩
    · cases hz
  · split at hz
    · cases hz; cases hy.int_
      rename_i hl
      obtain ⟨a, vs, rfl, ha, ra⟩ := hx.lst_
      obtain ⟨h0, h1, h2⟩ := hl
      refine .inr (.inl ⟨_, _, _, rfl, rfl, ha, by omega, by omega, by rw [ra.length, ← szL_eq]; exact h2, fun p hp => ?_⟩)
      obtain ⟨s, r⟩ := Rep.new_lst tr hp (ra.rep _)
      exact q _ _ s r
    · cases hz
  · split at hz
    · cases hz; cases hy.int_
      rename_i hl
      obtain ⟨h0, h1, h2, h3⟩ := hl
      obtain ⟨a, vs, oa, rfl, ha', ha, na, ra⟩ := hx.tup_
      refine .inr (.inr (.inl ⟨_, _, _, rfl, rfl, .inl (.inr ⟨_, ha⟩), fun e => ?_, h1, h2, by rw [ra.length]; exact h3, fun p o hp ho => ?_⟩))
      · subst e; cases ra; cases h0
      · obtain ⟨s, r⟩ := Rep.new_tup tr hp ho (ra.rep _)
        exact q _ _ s r
    · cases hz
  · split at hz
    · cases hz; cases hy.int_; cases hx.str_
      rename_i hl
      exact .inr (.inr (.inr ⟨_, _, rfl, rfl, hl.1, hl.2.1, hl.2.2, q _ _ (Same.refl _) (.str _)⟩))
    · cases hz
  · cases hz
abbrev rMods : R2 := rI (fun _ j => 0 < j) fun i j => .int (i % j)
theorem s_mod : Serves2 K rMods modD := by
  intro own H x y d e z Q tr hx hy hz q
  unfold modD at hz
  split at hz
  · split at hz
    · cases hz; cases hx.int_; cases hy.int_
      rename_i hl
      exact ⟨_, _, rfl, rfl, hl, q _ _ (Same.refl _) (.int _)⟩
    · cases hz
  · cases hz
abbrev rDivs : R2 := rI CDivW fun i j => .int (i / j)
theorem s_div : Serves2 K rDivs divD := by
  intro own H x y d e z Q tr hx hy hz q
  unfold divD at hz
  split at hz
  · split at hz
    · cases hz; cases hx.int_; cases hy.int_
      rename_i hl
      exact ⟨_, _, rfl, rfl, hl, q _ _ (Same.refl _) (.int _)⟩
    · cases hz
  · cases hz
theorem s_neg : Serves1 K (rU fun i => .int (-i)) negD := by
  intro own H x d z Q tr hx hz q
  unfold negD at hz
  split at hz
  · cases hz; cases hx.int_
    exact ⟨_, rfl, q _ _ (Same.refl _) (.int _)⟩
  · cases hz
theorem lt_mk (x y : T) : decide ((mkS x).cps.toList < (mkS y).cps.toList) = ltT x y := by
  rw [mkS_toList, mkS_toList]; rfl
abbrev rIS (f : Int → Int → Bool) (g : T → T → Bool) : R2 := fun x y H Q => (∃ i j, x = .int i ∧ y = .int j ∧ Q (.bl (f i j)) H) ∨ (∃ a b, x = .str (mkS a) ∧ y = .str (mkS b) ∧ Q (.bl (g a b)) H)
theorem opIS {X : Cx} {op : CmpOp} {f : Int → Int → Bool} {g : T → T → Bool} {g' : Str → Str → Bool} (h1 : OpR X (compareOp op) (rI0 fun i j => .bl (f i j))) (h2 : OpR X (compareOp op) (fun x y H Q => ∃ i j, x = .str i ∧ y = .str j ∧ Q (.bl (g' i j)) H))
    (e : ∀ a b, g' (mkS a) (mkS b) = g a b) : OpR X (compareOp op) (rIS f g) := by
  intro pins s σ H x y v u Q I rx ry h
  rcases h with h | ⟨a, b, e1, e2, q⟩
  · exact h1 pins s σ H x y v u Q I rx ry h
  · exact h2 pins s σ H x y v u Q I rx ry ⟨_, _, e1, e2, by rw [e]; exact q⟩
theorem op_lts {X : Cx} : OpR X (compareOp .Lt) (rIS (fun i j => decide (i < j)) ltT) := opIS op_lt op_lt_str lt_mk
theorem op_les {X : Cx} : OpR X (compareOp .LtE) (rIS (fun i j => decide (i ≤ j)) fun a b => !ltT b a) := opIS op_le op_le_str fun a b => by rw [lt_mk]
theorem op_gts {X : Cx} : OpR X (compareOp .Gt) (rIS (fun i j => decide (j < i)) fun a b => ltT b a) := opIS op_gt op_gt_str fun a b => by rw [lt_mk]
theorem op_ges {X : Cx} : OpR X (compareOp .GtE) (rIS (fun i j => decide (j ≤ i)) fun a b => !ltT a b) := opIS op_ge op_ge_str fun a b => by rw [lt_mk]
def rDIn (neg : Bool) : R2 := fun x y H Q => ∃ a o, y = .ref a ∧ DGet H a x o ∧ Q (.bl (if neg then !o.isSome else o.isSome)) H
theorem op_dIn {X : Cx} (hu : X.A.units + 1 < cLine) : OpR X (compareOp .In) (rDIn false) := by
  intro pins s σ H x y v u Q I rx ry h
  obtain ⟨a, o, rfl, g, q⟩ := h
  obtain rfl : u = Value.ref a := ry
  exact d_in hu I g rx fun s3 I3 => ⟨.bl o.isSome, H, I3, rfl, q⟩
theorem op_dNin {X : Cx} (hu : X.A.units + 1 < cLine) : OpR X (compareOp .NotIn) (rDIn true) := by
  intro pins s σ H x y v u Q I rx ry h
  obtain ⟨a, o, rfl, g, q⟩ := h
  obtain rfl : u = Value.ref a := ry
  exact d_notIn hu I g rx fun s3 I3 => ⟨.bl (!o.isSome), H, I3, rfl, q⟩
abbrev rIns (K : KK) (neg : Bool) : R2 := fun x y H Q =>
  (∃ (c : Nat) (z : Str), x = .str ⟨#[c]⟩ ∧ y = .str z ∧ Q (.bl (if neg then !decide (c ∈ z.cps.toList) else decide (c ∈ z.cps.toList))) H) ∨ (rIn K neg x y H Q ∨
    ((∃ d ds, Dp K H x d ∧ Dp K H y (.list ds) ∧ SeqAt.shaped d = true ∧ SeqAt.shaped (.list ds) = true ∧ Q (.bl (if neg then !(ds.any fun z => PyData.eqv z d) else (ds.any fun z => PyData.eqv z d))) H) ∨ rDIn neg x y H Q))
theorem op_ins {X : Cx} (hu : X.A.units + 65 < cLine) : OpR X (compareOp .In) (rIns X.KK false) := op_in_sign.or (op_in_seq.or ((op_inD hu).or (op_dIn (by omega))))
theorem op_nins {X : Cx} (hu : X.A.units + 65 < cLine) : OpR X (compareOp .NotIn) (rIns X.KK true) := op_notIn_sign.or (op_notIn_seq.or ((op_notInD hu).or (op_dNin (by omega))))
def rCmp (K : KK) : Cmp → R2
  | .lt => rIS (fun i j => decide (i < j)) ltT
  | .le => rIS (fun i j => decide (i ≤ j)) fun a b => !ltT b a
  | .gt => rIS (fun i j => decide (j < i)) fun a b => ltT b a
  | .ge => rIS (fun i j => decide (j ≤ i)) fun a b => !ltT a b
  | .eq => rEqD K
  | .ne => rNeD K
  | .is => fun x y H Q => y = .non ∧ Q (.bl (decide (x = .non))) H
  | .isn => fun x y H Q => y = .non ∧ Q (.bl (!decide (x = .non))) H
  | .in_ => rIns K false
  | .nin => rIns K true
theorem op_cmp {X : Cx} (hu : X.A.units + 65 < cLine) : ∀ c : Cmp, OpR X (compareOp c.op) (rCmp X.KK c)
  | .lt => op_lts
  | .le => op_les
  | .gt => op_gts
  | .ge => op_ges
  | .eq => op_eqD (by omega)
  | .ne => op_neD (by omega)
  | .is => op_isN
  | .isn => op_notN
  | .in_ => op_ins hu
  | .nin => op_nins hu
theorem isNon_ok {H : Hp} {own : List Addr} {x : V} {d : D} (r : RepB K own H x d) : decide (x = .non) = isNonD d := by
  cases r.rep <;> rfl
theorem flat_ok {H : Hp} {v : V} {d : D} (r : Rep K H v d) (f : flatD d = true) : flatV v = true := by
  cases r <;> first | rfl | cases f
theorem flats_ok {H : Hp} : ∀ {vs : List V} {ds : List D}, Reps K H vs ds → ds.all flatD = true → vs.all flatV = true
  | _, _, .nil, _ => rfl
  | _, _, .cons r t, f => by
    simp only [List.all_cons, Bool.and_eq_true] at f ⊢
    exact ⟨flat_ok r f.1, flats_ok t f.2⟩
theorem eqV_ok {H : Hp} {v w : V} {d e : D} (r : Rep K H v d) (f : flatD d = true) (r' : Rep K H w e) (f' : flatD e = true) : eqV v w = eqD d e := by
  cases r <;> cases f <;> cases r' <;> cases f' <;> first | rfl | (simp [eqV, eqD, toPy, PyData.eqv])
theorem inV_ok {H : Hp} {x : V} {d : D} (r : Rep K H x d) (f : flatD d = true) : ∀ {vs : List V} {ds : List D}, Reps K H vs ds → ds.all flatD = true → inV x vs = ds.any fun z => eqD z d
  | _, _, .nil, _ => rfl
  | _, _, .cons r' t, f' => by
    simp only [List.all_cons, Bool.and_eq_true] at f'
    have ih := inV_ok r f t f'.2
    unfold inV at ih ⊢
    simp only [List.any_cons]
    rw [ih, eqV_ok r' f'.1 r f]
theorem keyD_ok {H : Hp} {v : V} {d : D} {k : Key} (r : Rep K H v d) (e : keyD d = some k) : v = kV k := by
  cases r <;> simp [keyD] at e <;> subst e <;> rfl
theorem RepK.val {H : Hp} (k : Key) : ∀ {kvs : List (Key × V)} {ds : List (D × D)}, RepK K H kvs ds →
    (valV kvs k = none ∧ (ds.find? fun p => decide (keyD p.1 = some k)) = none) ∨ ∃ v p, valV kvs k = some v ∧ (ds.find? fun p => decide (keyD p.1 = some k)) = some p ∧ Rep K H v p.2
  | _, _, .nil => .inl ⟨rfl, rfl⟩
  | _, _, .cons (k := k') (v := v) (vs := vs) (x := x) (d := d) (ds := ds) e r t => by
    by_cases h : k' = k
    · subst h
      refine .inr ⟨v, (x, d), ?_, ?_, r⟩
      · simp [valV]
      · simp [e]
    · rcases RepK.val k t with ⟨h1, h2⟩ | ⟨v', p, h1, h2, h3⟩
      · refine .inl ⟨?_, ?_⟩
        · simp only [valV, List.find?_cons, h, decide_false] at h1 ⊢
          exact h1
        · simp only [List.find?_cons, e, Option.some.injEq, h, decide_false]
          exact h2
      · refine .inr ⟨v', p, ?_, ?_, h3⟩
        · simp only [valV, List.find?_cons, h, decide_false] at h1 ⊢
          exact h1
        · simp only [List.find?_cons, e, Option.some.injEq, h, decide_false]
          exact h2
theorem dk_get {own : List Addr} {H : Hp} {x y : V} {d : D} {kvs : List (D × D)} (hx : RepB K own H x d) (hy : RepB K own H y (.dk kvs)) (hk : (keyD d).isSome = true) :
    ∃ a o, y = .ref a ∧ DGet H a x o ∧ ((o = none ∧ dget kvs d = none) ∨ ∃ v e, o = some v ∧ dget kvs d = some e ∧ Rep K (hid own H) v e) := by
  obtain ⟨a, vs, rfl, ha, ra⟩ := hy.dk_
  cases q : keyD d with
  | none => rw [q] at hk; cases hk
  | some k =>
    have ex := keyD_ok hx.rep q
    subst ex
    refine ⟨a, valV vs k, rfl, .inl ⟨vs, k, ha, rfl, rfl⟩, ?_⟩
    unfold dget
    rw [q]
    rcases RepK.val k ra with ⟨h1, h2⟩ | ⟨v, p, h1, h2, h3⟩
    · exact .inl ⟨h1, by simp only [h2]; rfl⟩
    · exact .inr ⟨v, p.2, h1, by simp only [h2]; rfl, h3⟩
theorem any_eqD (d : D) : ∀ ds : List D, ((toPys ds).any fun z => PyData.eqv z (toPy d)) = ds.any fun z => eqD z d
  | [] => rfl
  | e :: ds => by
    simp only [toPys, List.any_cons, any_eqD d ds]; rfl
theorem s_inb {own : List Addr} {H : Hp} {x y : V} {d e : D} {b : Bool} (neg : Bool) {Q : VK} (hx : RepB K own H x d) (hy : RepB K own H y e) (hz : inD d e = some b) (q : Q (.bl (if neg then !b else b)) H) : rIns K neg x y H Q := by
  unfold inD at hz
  split at hz
  · split at hz
    · cases hz; cases hx.str_; cases hy.str_
      refine .inl ⟨_, _, rfl, rfl, ?_⟩
      rw [mkS_toList]
      exact q
    · cases hz
  · split at hz
    · cases hz
      rename_i hf
      simp only [Bool.and_eq_true] at hf
      obtain ⟨a, vs, oa, rfl, ha', ha, na, ra⟩ := hy.tup_
      have ra' := ra.mono (hid_le own H)
      refine .inr (.inl ⟨a, vs, rfl, .inr (.inl (.inr ⟨_, ha⟩)), flat_ok hx.rep hf.1, flats_ok ra' hf.2, ?_⟩)
      rw [inV_ok hx.rep hf.1 ra' hf.2]
      exact q
    · cases hz
  · split at hz
    · cases hz
      rename_i hf
      simp only [Bool.and_eq_true] at hf
      refine .inr (.inr (.inl ⟨toPy d, _, hx.dp hf.1, hy.dp hf.2, hf.1, hf.2, ?_⟩))
      rw [any_eqD]
      exact q
    · cases hz
  · split at hz
    · rename_i hf
      obtain ⟨a, o, rfl, g, h⟩ := dk_get hx hy hf
      refine .inr (.inr (.inr ⟨a, o, rfl, g, ?_⟩))
      have : o.isSome = b := by
        cases hz
        rcases h with ⟨h1, h2⟩ | ⟨v, e, h1, h2, _⟩ <;> rw [h1, h2] <;> rfl
      rw [this]; exact q
    · cases hz
  · cases hz
theorem s_cmp (c : Cmp) : Serves2 K (rCmp K c) (cmpD c) := by
  intro own H x y d e z Q tr hx hy hz q
  cases c with
  | eq =>
    simp only [cmpD] at hz
    split at hz
    · cases hz
      rename_i hf
      simp only [Bool.and_eq_true] at hf
      exact ⟨_, _, hx.dp hf.1, hy.dp hf.2, hf.1, hf.2, q _ _ (Same.refl _) (.bl _)⟩
    · cases hz
  | ne =>
    simp only [cmpD] at hz
    split at hz
    · cases hz
      rename_i hf
      simp only [Bool.and_eq_true] at hf
      exact ⟨_, _, hx.dp hf.1, hy.dp hf.2, hf.1, hf.2, q _ _ (Same.refl _) (.bl _)⟩
    · cases hz
  | is =>
    simp only [cmpD] at hz
    split at hz
    · cases hz; cases hy.non_
      exact ⟨rfl, by rw [isNon_ok hx]; exact q _ _ (Same.refl _) (.bl _)⟩
    · cases hz
  | isn =>
    simp only [cmpD] at hz
    split at hz
    · cases hz; cases hy.non_
      exact ⟨rfl, by rw [isNon_ok hx]; exact q _ _ (Same.refl _) (.bl _)⟩
    · cases hz
  | in_ =>
    simp only [cmpD] at hz
    cases h : inD d e with
    | none => rw [h] at hz; cases hz
    | some b =>
      rw [h] at hz; cases hz
      exact s_inb false hx hy h (q _ _ (Same.refl _) (.bl _))
  | nin =>
    simp only [cmpD] at hz
    cases h : inD d e with
    | none => rw [h] at hz; cases hz
    | some b =>
      rw [h] at hz; cases hz
      exact s_inb true hx hy h (q _ _ (Same.refl _) (.bl _))
  | _ =>
    simp only [cmpD] at hz
    split at hz
    · cases hz; cases hx.int_; cases hy.int_
      exact .inl ⟨_, _, rfl, rfl, q _ _ (Same.refl _) (.bl _)⟩
    · cases hz; cases hx.str_; cases hy.str_
      exact .inr ⟨_, _, rfl, rfl, q _ _ (Same.refl _) (.bl _)⟩
    · cases hz
end
end PLq
namespace PLq
open PySem L2
def idxD : D → D → Option D
  | .lst ds, .int i => atI ds i
  | .tup ds, .int i => atI ds i
  | .str x, .int i => if x.length ≤ szL then (atI x i).map fun c => D.str [c] else none
  | .scr ns, .int i => (atI ns i).map D.int
  | _, _ => none
def cutL {α : Type} (xs : List α) (lo hi : Option Int) : List α := (xs.drop (HT.sIx xs.length 0 lo)).take (HT.sIx xs.length xs.length hi - HT.sIx xs.length 0 lo)
def slD (d : D) (lo hi : Option Int) : Option D :=
  match d with
  | .lst ds => some (.lst (cutL ds lo hi))
  | .tup ds => some (.tup (cutL ds lo hi))
  | .str x => if x.length ≤ szL then some (.str (cutL x lo hi)) else none
  | _ => none
section
variable {K : KK}
theorem Reps.atI_ {H : Hp} {vs : List V} {ds : List D} (r : Reps K H vs ds) {i : Int} {d : D} (h : atI ds i = some d) : ∃ v, atI vs i = some v ∧ Rep K H v d := by
  unfold atI at h ⊢
  rw [r.length]
  cases q : ixN ds.length i with
  | none => rw [q] at h; cases h
  | some j =>
    rw [q] at h
    obtain ⟨v, h1, h2⟩ := r.get (show ds[j]? = some d from h)
    exact ⟨v, h1, h2⟩
theorem atI_map {α β : Type} (f : α → β) (xs : List α) (i : Int) : atI (xs.map f) i = (atI xs i).map f := by
  unfold atI
  rw [List.length_map]
  cases ixN xs.length i with
  | none => rfl
  | some j => simp
theorem s_idx : Serves2 K (rIx K) idxD := by
  intro own H x y d e z Q tr hx hy hz q
  unfold idxD at hz
  split at hz
  · cases hy.int_
    obtain ⟨a, vs, rfl, ha, ra⟩ := hx.lst_
    obtain ⟨v, h1, h2⟩ := ra.atI_ hz
    exact .inl ⟨_, _, _, _, rfl, rfl, .of ha, h1, q _ _ (Same.refl _) h2⟩
  · cases hy.int_
    obtain ⟨a, vs, o, rfl, _, ha, _, ra⟩ := hx.tup_
    obtain ⟨v, h1, h2⟩ := ra.atI_ hz
    exact .inr (.inl ⟨_, _, _, _, rfl, rfl, .inl (.inr ⟨_, ha⟩), h1, q _ _ (Same.refl _) h2⟩)
  · cases hx.str_; cases hy.int_
    split at hz
    · rename_i x i hl
      cases h : atI x i with
      | none => rw [h] at hz; cases hz
      | some c =>
        rw [h] at hz; cases hz
        exact .inr (.inr ⟨_, _, c, rfl, rfl, by rw [mkS_len, ← szL_eq]; exact hl, by rw [mkS_toList]; exact h, q _ _ (Same.refl _) (.str [c])⟩)
    · cases hz
  · cases hy.int_
    obtain ⟨a, rfl, ha⟩ := hx.scr_
    rename_i ns i
    cases h : atI ns i with
    | none => rw [h] at hz; cases hz
    | some c =>
      rw [h] at hz; cases hz
      exact .inl ⟨_, _, _, _, rfl, rfl, ha, by rw [atI_map, h]; rfl, q _ _ (Same.refl _) (.int _)⟩
  · cases hz
def rSlF (K : KK) : V → Option Int → Option Int → Hp → VK → Prop := fun x lo hi H Q => ∃ a xs, x = .ref a ∧ SqT K H a xs ∧
  (HT.sIx xs.length 0 lo = 0 ∧ HT.sIx xs.length xs.length hi = xs.length → Q (.ref a) H) ∧ (¬ (HT.sIx xs.length 0 lo = 0 ∧ HT.sIx xs.length xs.length hi = xs.length) → ∀ p o, H p = none → o.dict = none → Q (.ref p) (upd H p (.frz o (.tup (cutV xs lo hi)))))
theorem sl_tupF {X : Cx} : SlR X (rSlF X.KK) := by
  intro pins s σ H x v vl vu lo hi sl Q I rx hs pl pu h
  obtain ⟨a, xs, rfl, hx, q1, q2⟩ := h
  by_cases hw : HT.sIx xs.length 0 lo = 0 ∧ HT.sIx xs.length xs.length hi = xs.length
  · exact sl_tupA pins s σ H _ v vl vu lo hi sl Q I rx hs pl pu ⟨a, xs, rfl, hx, q1, fun z => absurd hw z⟩
  · cases rx
    obtain ⟨its, r, ht, hz⟩ := I.tuple hx
    have hlen : its.toArray.size = xs.length := by rw [List.size_toArray]; exact r.length.symm
    refine ⟨"tuple", _, PyProof.Rows.slot_tuple_getitem.lookup, ht.typeIs, ?_⟩
    refine HT.getItem_tuple_cut ht hs pl pu (by rw [hlen]; exact hw) ?_ (by rw [hlen]; exact hz)
    rw [hlen]
    refine ⟨.ref s.heap.objs.size, _, I.laid (t' := s.toks) (o := .frz { cls := .type "tuple", data := .seq ((its.toArray.toList.drop (HT.sIx xs.length 0 lo)).take (HT.sIx xs.length xs.length hi - HT.sIx xs.length 0 lo)).toArray } (.tup (cutV xs lo hi))) (fun b ob q => Heap.get?_push_of_some _ q) (Nat.le_refl _) ?_, rfl, q2 hw _ _ (I.hok.fresh (Nat.le_refl _)) rfl⟩
    exact ⟨Heap.get?_push_size _ rfl, Nat.le_trans (cutV_length xs lo hi) hz, _, (r.drop (HT.sIx xs.length 0 lo)).take (HT.sIx xs.length xs.length hi - HT.sIx xs.length 0 lo), PyProof.Rows.IsTup.new _ _⟩
abbrev rSls (K : KK) : V → Option Int → Option Int → Hp → VK → Prop := fun x lo hi H Q => rSlL K x lo hi H Q ∨ (rSlF K x lo hi H Q ∨ rSlS x lo hi H Q)
theorem sl_all {X : Cx} : SlR X (rSls X.KK) := sl_list.or (sl_tupF.or sl_str)
theorem cut_reps {H : Hp} {vs : List V} {ds : List D} (r : Reps K H vs ds) (lo hi : Option Int) : Reps K H (cutV vs lo hi) (cutL ds lo hi) := by
  unfold cutV cutL
  rw [r.length]
  exact (r.drop _).take _
theorem cutS_mk (x : T) (lo hi : Option Int) : cutS (mkS x) lo hi = mkS (cutL x lo hi) := by
  unfold cutS cutL
  rw [mkS_toList, mkS_len]; rfl
theorem s_sl {own : List Addr} {H : Hp} {x : V} {d z : D} {lo hi : Option Int} {Q : VK} (tr : ∀ a, a ∈ own → ∃ o, H a = some o) (hx : RepB K own H x d) (hz : slD d lo hi = some z)
    (q : ∀ v H', Same H H' → Rep K (hid own H') v z → Q v H') : rSls K x lo hi H Q := by
  unfold slD at hz
  split at hz
  · cases hz
    obtain ⟨a, vs, rfl, ha, ra⟩ := hx.lst_
    refine .inl ⟨a, vs, rfl, .of ha, fun p hp => ?_⟩
    obtain ⟨s, r⟩ := Rep.new_lst tr hp (cut_reps ra lo hi)
    exact q _ _ s r
  · cases hz
    rename_i ds
    obtain ⟨a, vs, o, rfl, ha', ha, na, ra⟩ := hx.tup_
    refine .inr (.inl ⟨a, vs, rfl, .inl (.inr ⟨_, ha⟩), fun hw => ?_, fun _ p o' hp ho => ?_⟩)
    · refine q _ _ (Same.refl _) (.tup ha' na ?_)
      have e : cutL ds lo hi = ds := by
        unfold cutL
        rw [← ra.length, hw.1, hw.2, List.drop_zero, Nat.sub_zero, ra.length, List.take_length]
      rw [e]; exact ra
    · obtain ⟨s, r⟩ := Rep.new_tup tr hp ho (cut_reps ra lo hi)
      exact q _ _ s r
  · split at hz
    · cases hz; cases hx.str_
      rename_i hl
      refine .inr (.inr ⟨_, rfl, by rw [mkS_len, ← szL_eq]; exact hl, ?_⟩)
      rw [cutS_mk]
      exact q _ _ (Same.refl _) (.str _)
    · cases hz
  · cases hz
end
inductive RepBs (K : KK) (own : List Addr) (H : Hp) : List V → List D → Prop
  | nil : RepBs K own H [] []
  | cons {v : V} {vs : List V} {d : D} {ds : List D} : RepB K own H v d → RepBs K own H vs ds → RepBs K own H (v :: vs) (d :: ds)
theorem RepBs.mono {K : KK} {own : List Addr} {H H' : Hp} (e : Same H H') : ∀ {vs : List V} {ds : List D}, RepBs K own H vs ds → RepBs K own H' vs ds
  | _, _, .nil => .nil
  | _, _, .cons r t => .cons (r.mono e) (RepBs.mono e t)
theorem RepBs.of {K : KK} {own : List Addr} {H : Hp} : ∀ {vs : List V} {ds : List D}, Reps K (hid own H) vs ds → RepBs K own H vs ds
  | _, _, .nil => .nil
  | _, _, .cons r t => .cons (.safe r) (RepBs.of t)
def ServesC (K : KK) (r : List V → Hp → VK → Prop) (h : List D → Option D) : Prop :=
  ∀ own H vs ds z Q, (∀ a, a ∈ own → ∃ o, H a = some o) → RepBs K own H vs ds → h ds = some z → (∀ v H', Same H H' → Rep K (hid own H') v z → Q v H') → r vs H Q
def intsD : List D → Option (List Int)
  | [] => some []
  | .int i :: ds => (intsD ds).map (i :: ·)
  | _ :: _ => none
def strsD : List D → Option (List T)
  | [] => some []
  | .str i :: ds => (strsD ds).map (i :: ·)
  | _ :: _ => none
def blsD : List D → Option (List Bool)
  | [] => some []
  | .bl i :: ds => (blsD ds).map (i :: ·)
  | _ :: _ => none
theorem intsD_eq : ∀ {ds : List D} {ns : List Int}, intsD ds = some ns → ds = ns.map D.int
  | [], _, h => by simp [intsD] at h; subst h; rfl
  | .int i :: ds, ns, h => by
    simp only [intsD, Option.map_eq_some_iff] at h
    obtain ⟨m, h1, rfl⟩ := h
    rw [intsD_eq h1]; rfl
  | .non :: _, _, h => by simp [intsD] at h
  | .bl _ :: _, _, h => by simp [intsD] at h
  | .str _ :: _, _, h => by simp [intsD] at h
  | .tup _ :: _, _, h => by simp [intsD] at h
  | .lst _ :: _, _, h => by simp [intsD] at h
  | .dk _ :: _, _, h => by simp [intsD] at h
  | .scr _ :: _, _, h => by simp [intsD] at h
theorem strsD_eq : ∀ {ds : List D} {ns : List T}, strsD ds = some ns → ds = ns.map D.str
  | [], _, h => by simp [strsD] at h; subst h; rfl
  | .str i :: ds, ns, h => by
    simp only [strsD, Option.map_eq_some_iff] at h
    obtain ⟨m, h1, rfl⟩ := h
    rw [strsD_eq h1]; rfl
  | .non :: _, _, h => by simp [strsD] at h
  | .bl _ :: _, _, h => by simp [strsD] at h
  | .int _ :: _, _, h => by simp [strsD] at h
  | .tup _ :: _, _, h => by simp [strsD] at h
  | .lst _ :: _, _, h => by simp [strsD] at h
  | .dk _ :: _, _, h => by simp [strsD] at h
  | .scr _ :: _, _, h => by simp [strsD] at h
theorem blsD_eq : ∀ {ds : List D} {ns : List Bool}, blsD ds = some ns → ds = ns.map D.bl
  | [], _, h => by simp [blsD] at h; subst h; rfl
  | .bl i :: ds, ns, h => by
    simp only [blsD, Option.map_eq_some_iff] at h
    obtain ⟨m, h1, rfl⟩ := h
    rw [blsD_eq h1]; rfl
  | .non :: _, _, h => by simp [blsD] at h
  | .int _ :: _, _, h => by simp [blsD] at h
  | .str _ :: _, _, h => by simp [blsD] at h
  | .tup _ :: _, _, h => by simp [blsD] at h
  | .lst _ :: _, _, h => by simp [blsD] at h
  | .dk _ :: _, _, h => by simp [blsD] at h
  | .scr _ :: _, _, h => by simp [blsD] at h
@[simp] theorem intsD_map (ns : List Int) : intsD (ns.map D.int) = some ns := by
  induction ns with
  | nil => rfl
  | cons n ns ih => simp [intsD, ih]
@[simp] theorem strsD_map (ns : List T) : strsD (ns.map D.str) = some ns := by
  induction ns with
  | nil => rfl
  | cons n ns ih => simp [strsD, ih]
@[simp] theorem blsD_map (ns : List Bool) : blsD (ns.map D.bl) = some ns := by
  induction ns with
  | nil => rfl
  | cons n ns ih => simp [blsD, ih]
def maxI (n : Int) (ns : List Int) : Int := ns.foldl (fun a b => if a < b then b else a) n
def minI (n : Int) (ns : List Int) : Int := ns.foldl (fun a b => if b < a then b else a) n
theorem maxI_spec : ∀ (ns : List Int) (n : Int), maxI n ns ∈ n :: ns ∧ ∀ m ∈ n :: ns, m ≤ maxI n ns
  | [], n => by simp [maxI]
  | k :: ns, n => by
    have h := maxI_spec ns (if n < k then k else n)
    have e : maxI n (k :: ns) = maxI (if n < k then k else n) ns := rfl
    rw [e]
    simp only [List.mem_cons] at h ⊢
    refine ⟨?_, fun m hm => ?_⟩
    · rcases h.1 with h1 | h1
      · by_cases c : n < k
        · rw [if_pos c] at h1 ⊢; exact .inr (.inl h1)
        · rw [if_neg c] at h1 ⊢; exact .inl h1
      · exact .inr (.inr h1)
    · have h0 := h.2 _ (.inl rfl)
      rcases hm with rfl | rfl | hm
      · by_cases c : m < k
        · rw [if_pos c] at h0 ⊢; omega
        · rw [if_neg c] at h0 ⊢; exact h0
      · by_cases c : n < m
        · rw [if_pos c] at h0 ⊢; exact h0
        · rw [if_neg c] at h0 ⊢; omega
      · exact h.2 m (.inr hm)
theorem minI_spec : ∀ (ns : List Int) (n : Int), minI n ns ∈ n :: ns ∧ ∀ m ∈ n :: ns, minI n ns ≤ m
  | [], n => by simp [minI]
  | k :: ns, n => by
    have h := minI_spec ns (if k < n then k else n)
    have e : minI n (k :: ns) = minI (if k < n then k else n) ns := rfl
    rw [e]
    simp only [List.mem_cons] at h ⊢
    refine ⟨?_, fun m hm => ?_⟩
    · rcases h.1 with h1 | h1
      · by_cases c : k < n
        · rw [if_pos c] at h1 ⊢; exact .inr (.inl h1)
        · rw [if_neg c] at h1 ⊢; exact .inl h1
      · exact .inr (.inr h1)
    · have h0 := h.2 _ (.inl rfl)
      rcases hm with rfl | rfl | hm
      · by_cases c : k < m
        · rw [if_pos c] at h0 ⊢; omega
        · rw [if_neg c] at h0 ⊢; exact h0
      · by_cases c : m < n
        · rw [if_pos c] at h0 ⊢; exact h0
        · rw [if_neg c] at h0 ⊢; omega
      · exact h.2 m (.inr hm)
inductive Bif where
  | len | all | sum | tuple | list | max | min | intb | stri | max2 | min2
  deriving DecidableEq
def bifD : Bif → List D → Option D
  | .len, [.str x] => if x.length ≤ szL then some (.int x.length) else none
  | .len, [.lst ds] => some (.int ds.length)
  | .len, [.tup ds] => some (.int ds.length)
  | .len, [.scr ns] => some (.int ns.length)
  | .all, [.lst ds] => (blsD ds).map fun bs => D.bl (bs.all id)
  | .sum, [.lst ds] => (intsD ds).map fun ns => D.int ns.sum
  | .sum, [.tup ds] => (intsD ds).map fun ns => D.int ns.sum
  | .tuple, [.lst ds] => some (.tup ds)
  | .tuple, [.tup ds] => some (.tup ds)
  | .list, [.lst ds] => some (.lst ds)
  | .list, [.tup ds] => some (.lst ds)
  | .max, [.lst (.int n :: ds)] => (intsD ds).map fun ns => D.int (maxI n ns)
  | .min, [.lst (.int n :: ds)] => (intsD ds).map fun ns => D.int (minI n ns)
  | .intb, [.bl b] => some (.int (if b then 1 else 0))
  | .max2, [.int i, .int j] => some (.int (if j > i then j else i))
  | .min2, [.int i, .int j] => some (.int (if j < i then j else i))
  | .stri, [.int i] => if i.natAbs.log2 < 1920 then some (.str (toString i : Str).cps.toList) else none
  | _, _ => none
def Bif.nm : Bif → Str
  | .len => "len" | .all => "all" | .sum => "sum" | .tuple => "tuple" | .list => "list" | .max => "max" | .min => "min" | .intb => "int" | .stri => "str" | .max2 => "max" | .min2 => "min"
def Bif.val : Bif → Value
  | .len => .builtin "len" | .all => .builtin "all" | .sum => .builtin "sum" | .tuple => .type "tuple" | .list => .type "list" | .max => .builtin "max" | .min => .builtin "min" | .intb => .type "int" | .stri => .type "str"
  | .max2 => .builtin "max" | .min2 => .builtin "min"
theorem Bif.boot : ∀ b : Bif, bootBuiltins b.nm = some b.val := by
  intro b; cases b <;> decide +kernel
section
variable {X : Cx}
theorem call_sumT (hc : X.calm = true) : CallR X (.builtin "sum") (fun vs H Q => ∃ (a : Addr) (ns : List Int), vs = [V.ref a] ∧ SqT X.KK H a (ns.map V.int) ∧ Q (.int ns.sum) H) := by
  intro pins s σ H vs us Q I r h
  obtain ⟨a, ns, rfl, hs, q⟩ := h
  obtain ⟨its, rv, ht, hz⟩ := I.tuple hs
  rw [Vals.ref1 r]
  have hi := rv.ints
  obtain ⟨xs, e⟩ := hi.allInts.items
  have hn : PySem.numsOf (PySem.intItems xs).toList = ns := by rw [← e]; exact hi.numsOf
  rw [PySem.nums_intItems] at hn
  rw [e] at ht
  refine PySem.W.ktm_sumG (I.ok.hd hc) ht fun h' tk t' hk => ?_
  refine ⟨.int ns.sum, H, I.kept (t' := tk) hk, ⟨t', ?_⟩, q⟩
  rw [PySem.preSum_eq, List.take_of_length_le (by simp), hn]
theorem call_tupleF : CallR X (.type "tuple") (fun xs H Q => ∃ p ys, xs = [.ref p] ∧ ((SqL X.KK H p ys ∧ ∀ l o, H l = none → o.dict = none → Q (.ref l) (upd H l (.frz o (.tup ys)))) ∨ (SqT X.KK H p ys ∧ Q (.ref p) H))) := by
  intro pins s σ H xs us Q I r h
  obtain ⟨p, ys, rfl, h⟩ := h
  obtain ⟨u, rfl, rx⟩ := vals1 r
  cases rx
  rcases h with ⟨hq, q⟩ | ⟨hq, q⟩
  · obtain ⟨its, r', pl, hz⟩ := I.list hq
    have hlen := r'.length
    refine call_tuple_list pl.isList (fun h' kp => ?_) (by simp only [List.size_toArray] <;> omega)
    have I1 : Inv X pins σ H { s with heap := h' } := I.kept (t' := s.toks) kp
    have I2 : Inv X pins σ (upd H h'.objs.size (.frz { cls := .type "tuple", data := .seq its.toArray } (.tup ys))) { s with heap := h'.push { cls := .type "tuple", data := .seq its.toArray } } :=
      I1.laid (t' := s.toks) (fun b o e => Heap.get?_push_of_some _ e) (Nat.le_refl _) (show ObjOk X.prog X.w _ _ _ (.frz _ (.tup ys)) from ⟨Heap.get?_push_size _ rfl, hz, its, r', PyProof.Rows.IsTup.new _ _⟩)
    exact ⟨.ref h'.objs.size, _, I2, rfl, q _ _ (I1.hok.fresh (Nat.le_refl _)) rfl⟩
  · obtain ⟨its, r', pl, hz⟩ := I.tuple hq
    exact call_tuple_same pl ⟨.ref p, H, I, rfl, q⟩
def rBif (X : Cx) : Bif → List V → Hp → VK → Prop
  | .len => fun xs H Q => ∃ x n, xs = [x] ∧ LenV X.KK x H n ∧ Q (.int n) H
  | .all => rAll X.KK
  | .sum => fun xs H Q => rSum X.KK xs H Q ∨ ∃ (a : Addr) (ns : List Int), xs = [V.ref a] ∧ SqT X.KK H a (ns.map V.int) ∧ Q (.int ns.sum) H
  | .tuple => fun xs H Q => ∃ p ys, xs = [.ref p] ∧ ((SqL X.KK H p ys ∧ ∀ l o, H l = none → o.dict = none → Q (.ref l) (upd H l (.frz o (.tup ys)))) ∨ (SqT X.KK H p ys ∧ Q (.ref p) H))
  | .list => fun xs H Q => ∃ p ys, xs = [.ref p] ∧ (SqL X.KK H p ys ∨ SqT X.KK H p ys) ∧ ∀ l, H l = none → Q (.ref l) (upd H l (.lst ys))
  | .max => rMax X.KK
  | .min => rMin X.KK
  | .max2 => fun xs H Q => ∃ i j, xs = [.int i, .int j] ∧ Q (.int (if j > i then j else i)) H
  | .min2 => fun xs H Q => ∃ i j, xs = [.int i, .int j] ∧ Q (.int (if j < i then j else i)) H
  | .intb => fun xs H Q => (∃ i, xs = [.int i] ∧ Q (.int i) H) ∨ ∃ k, xs = [.bl k] ∧ Q (.int (if k then 1 else 0)) H
  | .stri => fun xs H Q => ∃ i, xs = [.int i] ∧ i.natAbs.log2 < 1920 ∧ Q (.str (toString i)) H
theorem bif_call (hc : X.calm = true) : ∀ b : Bif, CallR X b.val (rBif X b)
  | .len => call_len
  | .all => cr_all hc
  | .sum => CallR.or (cr_sum hc) (call_sumT hc)
  | .tuple => call_tupleF
  | .list => call_list_of
  | .max => cr_max hc
  | .min => cr_min hc
  | .max2 => call_max2 hc
  | .min2 => call_min2 hc
  | .intb => call_int1
  | .stri => call_str_int
theorem RepBs.one {K : KK} {own : List Addr} {H : Hp} {vs : List V} {d : D} (h : RepBs K own H vs [d]) : ∃ v, vs = [v] ∧ RepB K own H v d := by
  cases h with | cons r t => cases t; exact ⟨_, rfl, r⟩
theorem RepBs.two {K : KK} {own : List Addr} {H : Hp} {vs : List V} {d e : D} (h : RepBs K own H vs [d, e]) : ∃ v w, vs = [v, w] ∧ RepB K own H v d ∧ RepB K own H w e := by
  cases h with | cons r t => cases t with | cons r' t' => cases t'; exact ⟨_, _, rfl, r, r'⟩
theorem s_bif : ∀ b : Bif, ServesC X.KK (rBif X b) (bifD b) := by
  intro b own H vs ds z Q tr hr hz q
  unfold bifD at hz
  split at hz
  · split at hz
    · cases hz
      obtain ⟨v, rfl, r⟩ := hr.one
      cases r.str_
      rename_i hl
      exact ⟨_, _, rfl, ⟨by rw [mkS_len, ← szL_eq]; exact hl, rfl⟩, by rw [mkS_len]; exact q _ _ (Same.refl _) (.int _)⟩
    · cases hz
  · cases hz
    obtain ⟨v, rfl, r⟩ := hr.one
    obtain ⟨a, ws, rfl, ha, ra⟩ := r.lst_
    exact ⟨_, _, rfl, .inl ⟨_, .of ha, rfl⟩, by rw [ra.length]; exact q _ _ (Same.refl _) (.int _)⟩
  · cases hz
    obtain ⟨v, rfl, r⟩ := hr.one
    obtain ⟨a, ws, o, rfl, _, ha, _, ra⟩ := r.tup_
    exact ⟨_, _, rfl, .inr ⟨_, .inl (.inr ⟨_, ha⟩), rfl⟩, by rw [ra.length]; exact q _ _ (Same.refl _) (.int _)⟩
  · cases hz
    obtain ⟨v, rfl, r⟩ := hr.one
    obtain ⟨a, rfl, ha⟩ := r.scr_
    exact ⟨_, _, rfl, .inl ⟨_, ha, rfl⟩, by rw [List.length_map]; exact q _ _ (Same.refl _) (.int _)⟩
  · obtain ⟨v, rfl, r⟩ := hr.one
    obtain ⟨a, ws, rfl, ha, ra⟩ := r.lst_
    simp only [Option.map_eq_some_iff] at hz
    obtain ⟨bs, h1, rfl⟩ := hz
    rw [blsD_eq h1] at ra
    rw [ra.bls] at ha
    exact ⟨a, bs, rfl, .of ha, q _ _ (Same.refl _) (.bl _)⟩
  · obtain ⟨v, rfl, r⟩ := hr.one
    obtain ⟨a, ws, rfl, ha, ra⟩ := r.lst_
    simp only [Option.map_eq_some_iff] at hz
    obtain ⟨bs, h1, rfl⟩ := hz
    rw [intsD_eq h1] at ra
    rw [ra.ints] at ha
    exact .inl ⟨a, bs, rfl, .of ha, q _ _ (Same.refl _) (.int _)⟩
  · obtain ⟨v, rfl, r⟩ := hr.one
    obtain ⟨a, ws, o, rfl, _, ha, _, ra⟩ := r.tup_
    simp only [Option.map_eq_some_iff] at hz
    obtain ⟨bs, h1, rfl⟩ := hz
    rw [intsD_eq h1] at ra
    rw [ra.ints] at ha
    exact .inr ⟨a, bs, rfl, .inl (.inr ⟨_, ha⟩), q _ _ (Same.refl _) (.int _)⟩
  · cases hz
    obtain ⟨v, rfl, r⟩ := hr.one
    obtain ⟨a, ws, rfl, ha, ra⟩ := r.lst_
    refine ⟨a, ws, rfl, .inl ⟨.of ha, fun l o hl ho => ?_⟩⟩
    obtain ⟨s, r⟩ := Rep.new_tup tr hl ho ra
    exact q _ _ s r
  · cases hz
    obtain ⟨v, rfl, r⟩ := hr.one
    obtain ⟨a, ws, o, rfl, ha', ha, na, ra⟩ := r.tup_
    exact ⟨a, ws, rfl, .inr ⟨.inl (.inr ⟨_, ha⟩), q _ _ (Same.refl _) (.tup ha' na ra)⟩⟩
  · cases hz
    obtain ⟨v, rfl, r⟩ := hr.one
    obtain ⟨a, ws, rfl, ha, ra⟩ := r.lst_
    refine ⟨a, ws, rfl, .inl (.of ha), fun l hl => ?_⟩
    obtain ⟨s, r⟩ := Rep.new_lst tr hl ra
    exact q _ _ s r
  · cases hz
    obtain ⟨v, rfl, r⟩ := hr.one
    obtain ⟨a, ws, o, rfl, _, ha, _, ra⟩ := r.tup_
    refine ⟨a, ws, rfl, .inr (.inl (.inr ⟨_, ha⟩)), fun l hl => ?_⟩
    obtain ⟨s, r⟩ := Rep.new_lst tr hl ra
    exact q _ _ s r
  · obtain ⟨v, rfl, r⟩ := hr.one
    obtain ⟨a, ws, rfl, ha, ra⟩ := r.lst_
    simp only [Option.map_eq_some_iff] at hz
    obtain ⟨ns, h1, rfl⟩ := hz
    rename_i n ds
    have e : D.int n :: ds = (n :: ns).map D.int := by rw [intsD_eq h1]; rfl
    rw [e] at ra
    rw [ra.ints] at ha
    refine ⟨a, n :: ns, rfl, .of ha, Nat.succ_pos _, fun m hm hle => ?_⟩
    have h2 := maxI_spec ns n
    have : m = maxI n ns := by
      have h3 := hle _ h2.1
      have h4 := h2.2 m hm
      omega
    rw [this]
    exact q _ _ (Same.refl _) (.int _)
  · obtain ⟨v, rfl, r⟩ := hr.one
    obtain ⟨a, ws, rfl, ha, ra⟩ := r.lst_
    simp only [Option.map_eq_some_iff] at hz
    obtain ⟨ns, h1, rfl⟩ := hz
    rename_i n ds
    have e : D.int n :: ds = (n :: ns).map D.int := by rw [intsD_eq h1]; rfl
    rw [e] at ra
    rw [ra.ints] at ha
    refine ⟨a, n :: ns, rfl, .of ha, Nat.succ_pos _, fun m hm hle => ?_⟩
    have h2 := minI_spec ns n
    have : m = minI n ns := by
      have h3 := hle _ h2.1
      have h4 := h2.2 m hm
      omega
    rw [this]
    exact q _ _ (Same.refl _) (.int _)
  · cases hz
    obtain ⟨v, rfl, r⟩ := hr.one
    cases r.bl_
    exact .inr ⟨_, rfl, q _ _ (Same.refl _) (.int _)⟩
  · cases hz
    obtain ⟨v, w, rfl, r, r'⟩ := hr.two
    cases r.int_; cases r'.int_
    exact ⟨_, _, rfl, q _ _ (Same.refl _) (.int _)⟩
  · cases hz
    obtain ⟨v, w, rfl, r, r'⟩ := hr.two
    cases r.int_; cases r'.int_
    exact ⟨_, _, rfl, q _ _ (Same.refl _) (.int _)⟩
  · split at hz
    · cases hz
      obtain ⟨v, rfl, r⟩ := hr.one
      cases r.int_
      rename_i i hl
      refine ⟨_, rfl, hl, q _ _ (Same.refl _) ?_⟩
      have := Rep.str (K := X.KK) (H := hid own H) (toString i : Str).cps.toList
      rw [mkS_of] at this
      exact this
    · cases hz
  · cases hz
end
end PLq
namespace PLq
open PySem L2
open PySem.W (EachIs AllAlike Sortable dataLt keyToks dataKind sortVals SortsAt alike)
def leP (p q : V × PyData) : Bool := !dataLt q.2 p.2
def Gathers (X : Cx) (H : Hp) (s : Shared) (u : Value) (ps : List (V × PyData)) : Prop :=
  ∀ (R : List Value → Shared → Prop) (E : Value → Shared → Prop), (∀ (h' : Heap) (tk : Nat) (acc : List Value), (∀ b o, s.heap.get? b = some o → h'.get? b = some o) → EachIs (fun v p => RelV p.1 v) acc ps → R acc { s with heap := h', toks := tk }) →
    wpAny (model X.prog X.w) X.A.in1 (collect u) R E s
theorem srt_call {X : Cx} {pins : List (Addr × Obj)} {σ : L2.St} {H : Hp} {s : Shared} {u : Value} {ps : List (V × PyData)} {Q : VK} (hu : X.A.units + 65 < cLine) (I : Inv X pins σ H s) (g : Gathers X H s u ps) (hd : ∀ p ∈ ps, Dp X.KK H p.1 p.2)
    (ha : AllAlike (ps.map (·.2))) (hk : Sortable (ps.map (·.2))) (hp : ∀ p ∈ ps, p.2.depth ≤ 50) (hz : ps.length ≤ sizeLine) (q : ∀ r, H r = none → Q (.ref r) (upd H r (.lst ((ps.mergeSort leP).map (·.1))))) :
    wpAny (model X.prog X.w) X.A (call (.builtin "sorted") [u]) (EP X pins σ Q) X.xe s := by
  refine Calls.call_function_entry PyProof.Rows.kind_sorted PyProof.Rows.plain_sorted PyProof.Rows.entry_sorted (PyProof.Rows.args_sorted1 _) ?_
  unfold Builtin.«sorted»
  refine wpAny_bind (m := checkCount "sorted" 1 1 _) (wpAny_pure ?_)
  refine wpAny_bind (g _ _ fun h' tk acc k1 k2 => ?_)
  have I1 : Inv X pins σ H { s with heap := h', toks := tk } := I.kept k1
  have hl := k2.length
  refine wpAny_bind (PySem.wpAny_newList ?_ (by rw [hl]; exact hz))
  have hoL : (h'.push (PyProof.Rows.seqObj "list" acc.toArray 0)).get? h'.objs.size = some (PyProof.Rows.seqObj "list" acc.toArray 0) := Heap.get?_push_size _ rfl
  show wpAny _ _ _ _ _ { s with heap := h'.push (PyProof.Rows.seqObj "list" acc.toArray 0), toks := tk }
  have old : ∀ b o, h'.get? b = some o → (PySem.W.sortingHeap (h'.push (PyProof.Rows.seqObj "list" acc.toArray 0)) h'.objs.size acc).get? b = some o := fun b o e =>
    PySem.W.sortingHeap_old (Nat.ne_of_lt (Heap.lt_size e)) (Heap.get?_push_of_some _ e)
  have I2 : Inv X pins σ H { s with heap := PySem.W.sortingHeap (h'.push (PyProof.Rows.seqObj "list" acc.toArray 0)) h'.objs.size acc, toks := tk } := I1.kept (t' := tk) old
  have rd : EachIs (fun v d => ∃ as, Reads (PySem.W.sortingHeap (h'.push (PyProof.Rows.seqObj "list" acc.toArray 0)) h'.objs.size acc) v d as) acc (ps.map (·.2)) := by
    have : ∀ {us : List Value} {qs : List (V × PyData)}, EachIs (fun v p => RelV p.1 v) us qs → (∀ p ∈ qs, Dp X.KK H p.1 p.2) →
        EachIs (fun v d => ∃ as, Reads (PySem.W.sortingHeap (h'.push (PyProof.Rows.seqObj "list" acc.toArray 0)) h'.objs.size acc) v d as) us (qs.map (·.2)) := by
      intro us qs e
      induction e with
      | nil => exact fun _ => .nil
      | cons r _ ih => exact fun z => .cons (Dp.reads I2 _ _ _ (z _ List.mem_cons_self) r) (ih fun p h => z p (List.mem_cons_of_mem _ h))
    exact this k2 hd
  have S : ∀ A : Around, A.units ≤ X.A.units + 10 → SortsAt X.prog X.w A { s with heap := PySem.W.sortingHeap (h'.push (PyProof.Rows.seqObj "list" acc.toArray 0)) h'.objs.size acc, toks := tk } (dataKind (PySem.W.sortingHeap (h'.push (PyProof.Rows.seqObj "list" acc.toArray 0)) h'.objs.size acc) (ps.map (·.2))) acc := fun A hA =>
    SortsAt.data (s := { s with heap := PySem.W.sortingHeap (h'.push (PyProof.Rows.seqObj "list" acc.toArray 0)) h'.objs.size acc, toks := tk }) rd ha hk fun d hd => by
      obtain ⟨p, hp', rfl⟩ := List.mem_map.mp hd
      have := hp p hp'
      omega
  have hl2 : acc.length ≤ sizeLine := by rw [hl]; exact hz
  refine wpAny_bind (wpAny_holding (wpAny_call_entry PyProof.Rows.slot_list_sort ⟨_, hoL, rfl⟩ PyProof.Rows.entry_list_sort
    (PySem.W.list_sort_vals (s := { s with heap := h'.push (PyProof.Rows.seqObj "list" acc.toArray 0), toks := tk }) hoL (S _ (by show X.A.units + 1 + 1 ≤ _; omega)) hl2 ⟨_, rfl, ?_⟩) (PyProof.Rows.args_list_sort _)))
  have out : EachIs (fun v p => RelV p.1 v) (sortVals (dataKind (PySem.W.sortingHeap (h'.push (PyProof.Rows.seqObj "list" acc.toArray 0)) h'.objs.size acc) (ps.map (·.2))) false acc acc) (ps.mergeSort leP) := by
    refine PySem.W.sortVals_each (κ := dataKind (PySem.W.sortingHeap (h'.push (PyProof.Rows.seqObj "list" acc.toArray 0)) h'.objs.size acc) (ps.map (·.2))) (fun p : V × PyData => keyToks p.2) k2 ?_
    have : ∀ {us : List Value} {qs : List (V × PyData)}, EachIs (fun v d => ∃ as, Reads (PySem.W.sortingHeap (h'.push (PyProof.Rows.seqObj "list" acc.toArray 0)) h'.objs.size acc) v d as) us (qs.map (·.2)) → (∀ p ∈ qs, p ∈ ps) →
        EachIs (fun v (p : V × PyData) => (dataKind (PySem.W.sortingHeap (h'.push (PyProof.Rows.seqObj "list" acc.toArray 0)) h'.objs.size acc) (ps.map (·.2))).keyOf v = some (keyToks p.2)) us qs := by
      intro us qs
      induction qs generalizing us with
      | nil => intro e _; cases e; exact .nil
      | cons p qs ih =>
        intro e z
        cases e with
        | cons r t =>
          obtain ⟨as, r⟩ := r
          exact .cons (PySem.W.dataKind_some ha (List.mem_map.mpr ⟨p, z p List.mem_cons_self, rfl⟩) r) (ih t fun p' h => z p' (List.mem_cons_of_mem _ h))
    exact this rd fun _ h => h
  obtain ⟨e', he'⟩ := PyProof.Rows.sortedHeap_at (vs := acc) (out := (sortVals (dataKind (PySem.W.sortingHeap (h'.push (PyProof.Rows.seqObj "list" acc.toArray 0)) h'.objs.size acc) (ps.map (·.2))) false acc acc).toArray) hoL
  have vals : ∀ {us : List Value} {qs : List (V × PyData)}, EachIs (fun v p => RelV p.1 v) us qs → Vals (qs.map (·.1)) us := by
    intro us qs e
    induction e with
    | nil => exact .nil
    | cons r _ ih => exact .cons r ih
  refine wpAny_pure ⟨_, rfl, .ref h'.objs.size, upd H h'.objs.size (.lst ((ps.mergeSort leP).map (·.1))), I1.laid (t' := tk) (fun b v e => ?_) (Nat.le_refl _)
    ⟨by rw [List.length_map, (List.mergeSort_perm _ _).length_eq]; exact hz, _, e', vals out, he'⟩, rfl, q _ (I1.hok.fresh (Nat.le_refl _))⟩
  have hb : b < h'.objs.size := Heap.lt_size e
  rw [PyProof.Rows.sortedHeap_old (Nat.ne_of_lt hb) (by rw [PyProof.Rows.size_push']; exact Nat.lt_succ_of_lt hb)]
  exact Heap.get?_push_of_some _ e
section
variable {X : Cx} {pins : List (Addr × Obj)} {σ : L2.St} {H : Hp} {s : Shared} {a : Addr} {ps : List (V × PyData)}
theorem vals_each : ∀ {qs : List (V × PyData)} {us : List Value}, Vals (qs.map (·.1)) us → EachIs (fun v (p : V × PyData) => RelV p.1 v) us qs
  | [], _, .nil => .nil
  | _ :: _, _, .cons r t => .cons r (vals_each t)
theorem gathers_list (I : Inv X pins σ H s) (h : SqL X.KK H a (ps.map (·.1))) : Gathers X H s (.ref a) ps := by
  intro R E hR
  obtain ⟨its, r, hl, hz⟩ := I.list h
  refine PyProof.Rows.collect_list (vs := its) hl.isList (hR _ s.toks its (fun b o e => ?_) (vals_each r)) (by rw [← r.length]; exact hz)
  rw [Heap.get?_update_ne _ _ _ _ (Nat.ne_of_lt (Heap.lt_size e))]
  exact Heap.get?_push_of_some _ e
theorem collect_tup {prog : Program} {w : World} {A : Around} {E : Value → Shared → Prop} {l : Addr} {vs : List Value} {Q : List Value → Shared → Prop} (hl : s.heap.IsTuple l vs.toArray)
    (h : Q vs { s with heap := (s.heap.push (PyProof.Rows.seqObj "list" #[] 0)).update s.heap.objs.size (Obj.mapSeq (· ++ vs.toArray)) }) (hsz : vs.length ≤ sizeLine) : wpAny (model prog w) A (collect (.ref l)) Q E s := by
  obtain ⟨o, ho, hc, n, hd⟩ := id hl
  unfold collect
  refine wpAny_bind (wpAny_runValue (codeAny_builtin PySem.F.entry_proto_collect ?_))
  show wpAny _ _ (do again (.builtin "list.__iadd__" ⟨[← newList [], .ref l], []⟩)) _ _ s
  refine wpAny_bind (PySem.wpAny_newList (wpAny_pure ⟨Code.quiet_builtin _ (by decide +kernel), codeAny_builtin PySem.F.entry_list_iadd ?_⟩))
  show wpAny _ _ (Builtin.List.listExtendWith (.ref s.heap.objs.size) (.ref l) (.ref s.heap.objs.size)) _ _ { s with heap := s.heap.push (PyProof.Rows.seqObj "list" #[] 0) }
  unfold Builtin.List.listExtendWith
  have ho' : (s.heap.push (PyProof.Rows.seqObj "list" #[] 0)).get? l = some o := Heap.get?_push_of_some _ ho
  refine wpAny_bind (wpAny_typeOf (T := "tuple") ⟨o, ho', hc⟩ ?_)
  have ht : (Value.type "tuple" == Value.type "tuple") = true := by rfl
  have ht2 : (Value.type "tuple" == Value.type "list") = false := by decide
  rw [if_pos (by rw [ht, Bool.or_true])]
  refine wpAny_bind (PyProof.Rows.listItems_at ho' hd ?_)
  refine wpAny_bind (PyProof.Rows.listItems_at (xs := #[]) (n := 0) (Heap.get?_push_size _ rfl) rfl ?_)
  rw [if_neg (by simp)]
  refine wpAny_bind (PyProof.Rows.listUpdate_at (xs := #[]) (n := 0) (Heap.get?_push_size _ rfl) rfl ?_ (Nat.zero_le _) (by show (#[] ++ vs.toArray).size ≤ sizeLine + 1; simp only [Array.size_append, List.size_toArray, List.length_nil]; omega))
  refine wpAny_pure ?_
  show wpAny (model prog w) A (do
      let o ← load s.heap.objs.size
      match o.data with
      | .seq xs _ => pure xs.toList
      | _ => unsupported "internal:collect") Q E { s with heap := (s.heap.push (PyProof.Rows.seqObj "list" #[] 0)).update s.heap.objs.size (Obj.mapSeq (· ++ vs.toArray)) }
  refine wpAny_bind (wpAny_load (PyProof.Rows.get?_update_seq (Heap.get?_push_size _ rfl) _) ?_)
  show wpAny _ _ (pure ((#[] : Array Value) ++ vs.toArray).toList) Q E _
  rw [show ((#[] : Array Value) ++ vs.toArray).toList = vs by simp]
  exact wpAny_pure h
theorem gathers_tup (I : Inv X pins σ H s) (h : SqT X.KK H a (ps.map (·.1))) : Gathers X H s (.ref a) ps := by
  intro R E hR
  obtain ⟨its, r, hl, hz⟩ := I.tuple h
  refine collect_tup (vs := its) hl (hR _ s.toks its (fun b o e => ?_) (vals_each r)) (by rw [← r.length]; exact hz)
  rw [Heap.get?_update_ne _ _ _ _ (Nat.ne_of_lt (Heap.lt_size e))]
  exact Heap.get?_push_of_some _ e
def keyData : Key → PyData
  | .inl i => .int i
  | .inr x => .str x
theorem gathers_dict {kvs : List (Key × V)} (hc : X.calm = true) (I : Inv X pins σ H s) (h : Rd H a (.dK kvs)) : Gathers X H s (.ref a) (kvs.map fun kv => (kV kv.1, keyData kv.1)) := by
  intro R E hR
  obtain ⟨z, lo, vs, rel, dd⟩ := dk_rd I.hok h
  obtain ⟨ep, hat⟩ := dd.dictAt
  have hl : vs.length = kvs.length := rel.length.symm
  refine PySem.W.kdu_collect (A := X.A.in1) (PySem.W.kdl_dict (knd := mixKind X.prog X.w) (kvs := vs) (ep := ep) lo) (I.ok.hd hc) hat (by rw [hl]; exact z) fun h' tk acc hk hacc => hR h' tk acc.toList hk ?_
  have hkeys : vs.map (·.1) = kvs.map (·.1) := rel.keys.symm
  have hal : acc.toList.length = kvs.length := by rw [Array.length_toList, hacc.1, hl]
  have : ∀ {qs : List (Key × V)} {us : List Value}, us.length = qs.length → (∀ (j : Nat) (v : Value) (kv : Key × V), us[j]? = some v → qs[j]? = some kv → RelV (kV kv.1) v) → EachIs (fun v (p : V × PyData) => RelV p.1 v) us (qs.map fun kv => (kV kv.1, keyData kv.1)) := by
    intro qs
    induction qs with
    | nil =>
      intro us h1 _
      rw [List.eq_nil_of_length_eq_zero h1]; exact .nil
    | cons q qs ih =>
      intro us h1 h2
      cases us with
      | nil => simp at h1
      | cons u us => exact .cons (h2 0 u q rfl rfl) (ih (by simpa using h1) fun j v kv e1 e2 => h2 (j + 1) v kv (by simpa using e1) (by simpa using e2))
  refine this hal fun j v kv e1 e2 => ?_
  obtain ⟨k, x, e3, e4⟩ := hacc.2 j v (by rw [← Array.getElem?_toList]; exact e1)
  have e5 : (vs.map (·.1))[j]? = some k := by rw [List.getElem?_map, e3]; rfl
  rw [hkeys, List.getElem?_map, e2] at e5
  have e6 : kv.1 = k := Option.some.inj e5
  rw [e6]
  rcases keyIs_shape (show keyIs k v = true from e4) with ⟨i, t, ek, ev⟩ | ⟨z, t, ek, ev⟩
  · subst ek; exact ⟨t, ev⟩
  · subst ek; exact ⟨t, ev⟩
theorem gathers_raw {xs : List (List Key × Addr × Value)} (hc : X.calm = true) (I : Inv X pins σ H s) (h : H a = some (rawT X.prog X.w a xs)) (e : ps.map (·.1) = xs.map fun x => V.ref x.2.1) : Gathers X H s (.ref a) ps := by
  intro R E hR
  obtain ⟨⟨lo, z, nd, o, es, ep, ho, hx, hd, he⟩, _, _⟩ := (show ObjOk X.prog X.w H s.heap a (rawT X.prog X.w a xs) from I.hok a _ h)
  have l1 : es.size = xs.length := PySem.size_of_entries he
  refine PySem.W.kdu_collect (A := X.A.in1) (kdl_raw lo hx hd) (I.ok.hd hc) ho (by omega) fun h' tk acc hk hacc => hR h' tk acc.toList hk (vals_each ?_)
  rw [e]
  have ea : acc.toList = (xs.map fun x => x.2.1).map Value.ref := by
    have hl : acc.toList.length = xs.length := by rw [Array.length_toList, hacc.1, l1]
    refine List.ext_getElem? fun j => ?_
    by_cases hj : j < xs.length
    · have h1 : acc.toList[j]? = some (acc.toList[j]'(by omega)) := List.getElem?_eq_getElem _
      obtain ⟨en, e1, e2⟩ := hacc.2 j _ (by rw [← Array.getElem?_toList]; exact h1)
      have e3 := PySem.entry_at he j
      rw [e1, List.getElem?_eq_getElem hj] at e3
      have e3 : en = PySem.entryOfKey (tupleKind (mixKind X.prog X.w)) xs[j] := Option.some.inj e3
      rw [h1, e2, e3, List.getElem?_map, List.getElem?_map, List.getElem?_eq_getElem hj]
      rfl
    · rw [List.getElem?_eq_none (by omega), List.getElem?_eq_none (by simp; omega)]
  have ex : (xs.map fun x => V.ref x.2.1) = (xs.map fun x => x.2.1).map V.ref := by rw [List.map_map]; rfl
  rw [ea, ex]
  exact vals_refs _
end
def alikeD (x y : D) : Bool := alike (toPy x) (toPy y)
def srtOk (ds : List D) : Bool := (ds.all fun d => ds.all fun e => alikeD d e) && (ds.all (fun d => match d with | .tup (_ :: _) => true | _ => false) || ds.all fun d => match d with | .tup _ => false | .non => false | _ => true) &&
  ds.all (fun d => fine d && decide ((toPy d).depth ≤ 50)) && decide (ds.length ≤ szL)
def leD (d e : D) : Bool := !dataLt (toPy e) (toPy d)
def sortedD (ds : List D) : Option D := if srtOk ds then some (.lst (ds.mergeSort leD)) else none
def srtD : List D → Option D
  | [.lst ds] => sortedD ds
  | [.tup ds] => sortedD ds
  | [.dk kvs] => sortedD (kvs.map (·.1))
  | [.dkT kvs] => sortedD (kvs.map (·.1))
  | _ => none
def rSrt (X : Cx) : List V → Hp → VK → Prop := fun vs H Q => ∃ a, ∃ ps : List (V × PyData), vs = [.ref a] ∧ (SqL X.KK H a (ps.map (·.1)) ∨ SqT X.KK H a (ps.map (·.1)) ∨ (∃ kvs, Rd H a (.dK kvs) ∧ ps = kvs.map fun kv => (kV kv.1, keyData kv.1)) ∨ ∃ xs, H a = some (rawT X.prog X.w a xs) ∧ ps.map (·.1) = xs.map fun x => V.ref x.2.1) ∧
  (∀ p ∈ ps, Dp X.KK H p.1 p.2) ∧ AllAlike (ps.map (·.2)) ∧ Sortable (ps.map (·.2)) ∧ (∀ p ∈ ps, p.2.depth ≤ 50) ∧ ps.length ≤ sizeLine ∧ ∀ r, H r = none → Q (.ref r) (upd H r (.lst ((ps.mergeSort leP).map (·.1))))
theorem cr_srt {X : Cx} (hu : X.A.units + 65 < cLine) (hc : X.calm = true) : CallR X (.builtin "sorted") (rSrt X) := by
  intro pins s σ H vs us Q I r h
  obtain ⟨a, ps, rfl, hs, h1, h2, h3, h4, h5, q⟩ := h
  obtain ⟨u, rfl, ru⟩ := vals1 r
  obtain rfl : u = Value.ref a := ru
  refine srt_call hu I ?_ h1 h2 h3 h4 h5 q
  rcases hs with hs | hs | ⟨kvs, hs, rfl⟩ | ⟨xs, hs, e⟩
  · exact gathers_list I hs
  · exact gathers_tup I hs
  · exact gathers_dict hc I hs
  · exact gathers_raw hc I hs e
section
variable {X : Cx}
theorem reps_mono_pick {H : Hp} (f : V × D → V × PyData) (hf : ∀ p, f p = (p.1, toPy p.2)) : ∀ (qs : List (V × D)), ((qs.map f).mergeSort leP).map (·.1) = (qs.mergeSort fun p q => leD p.2 q.2).map (·.1) := by
  intro qs
  have e : (qs.map f).mergeSort leP = (qs.mergeSort fun p q => leD p.2 q.2).map f := by
    rw [List.map_mergeSort]
    intro a _ b _
    rw [hf, hf]; rfl
  rw [e, List.map_map]
  exact List.map_congr_left fun p _ => by rw [Function.comp_apply, hf]
theorem reps_zip {K : KK} {H : Hp} : ∀ {vs : List V} {ds : List D}, Reps K H vs ds → ∃ qs : List (V × D), qs.map (·.1) = vs ∧ qs.map (·.2) = ds ∧ ∀ p ∈ qs, Rep K H p.1 p.2
  | _, _, .nil => ⟨[], rfl, rfl, fun p h => by cases h⟩
  | _, _, .cons (v := v) (d := d) r t => by
    obtain ⟨qs, h1, h2, h3⟩ := reps_zip t
    refine ⟨(v, d) :: qs, by simp [h1], by simp [h2], fun p hp => ?_⟩
    rcases List.mem_cons.mp hp with e | hp
    · subst e; exact r
    · exact h3 p hp
theorem reps_of {K : KK} {H : Hp} : ∀ (qs : List (V × D)), (∀ p ∈ qs, Rep K H p.1 p.2) → Reps K H (qs.map (·.1)) (qs.map (·.2))
  | [], _ => .nil
  | q :: qs, h => .cons (h q List.mem_cons_self) (reps_of qs fun p hp => h p (List.mem_cons_of_mem _ hp))
theorem srt_core {own : List Addr} {H : Hp} {a : Addr} {ds : List D} {z : D} {Q : VK} {qs : List (V × D)} (tr : ∀ a, a ∈ own → ∃ o, H a = some o) (hq : ∀ p ∈ qs, Rep X.KK (hid own H) p.1 p.2) (e2 : qs.map (·.2) = ds)
    (hs : SqL X.KK H a (qs.map (·.1)) ∨ SqT X.KK H a (qs.map (·.1)) ∨ (∃ kvs, Rd H a (.dK kvs) ∧ (qs.map fun p => (p.1, toPy p.2)) = kvs.map fun kv => (kV kv.1, keyData kv.1)) ∨ ∃ xs, H a = some (rawT X.prog X.w a xs) ∧ qs.map (·.1) = xs.map fun x => V.ref x.2.1) (hz : sortedD ds = some z)
    (q : ∀ r vs es, z = .lst es → H r = none → Reps X.KK (hid own H) vs es → Q (.ref r) (upd H r (.lst vs))) : rSrt X [.ref a] H Q := by
  unfold sortedD at hz
  split at hz
  case isFalse => cases hz
  case isTrue ok =>
    cases hz
    unfold srtOk at ok
    simp only [Bool.and_eq_true, decide_eq_true_eq, List.all_eq_true] at ok
    obtain ⟨⟨⟨o1, o2⟩, o3⟩, o4⟩ := ok
    have mem : ∀ p ∈ qs, p.2 ∈ ds := fun p hp => by rw [← e2]; exact List.mem_map.mpr ⟨p, hp, rfl⟩
    have em : (qs.map fun p => (p.1, toPy p.2)).map (·.2) = ds.map toPy := by rw [← e2, List.map_map, List.map_map]; rfl
    refine ⟨a, qs.map fun p => (p.1, toPy p.2), rfl, ?_, fun p hp => ?_, ?_, ?_, fun p hp => ?_, ?_, fun r hr => ?_⟩
    · have e : (qs.map fun p => (p.1, toPy p.2)).map (·.1) = qs.map (·.1) := by rw [List.map_map]; rfl
      rw [e]; exact hs
    · obtain ⟨p', hp', rfl⟩ := List.mem_map.mp hp
      exact Rep.dp ((hq p' hp').mono (hid_le own H)) (SeqAt.canLay_of_shaped (o3 _ (mem p' hp')).1)
    · rw [em]
      intro d hd d' hd'
      obtain ⟨x, hx, rfl⟩ := List.mem_map.mp hd
      obtain ⟨y, hy, rfl⟩ := List.mem_map.mp hd'
      exact o1 x hx y hy
    · rw [em]
      rcases Bool.or_eq_true_iff.mp o2 with o | o
      · refine .inl fun d hd => ?_
        obtain ⟨x, hx, rfl⟩ := List.mem_map.mp hd
        have := List.all_eq_true.mp o x hx
        cases x with
        | tup xs =>
          cases xs with
          | nil => cases this
          | cons b xs => exact ⟨toPy b, toPys xs, rfl⟩
        | _ => cases this
      · refine .inr fun d hd => ?_
        obtain ⟨x, hx, rfl⟩ := List.mem_map.mp hd
        have := List.all_eq_true.mp o x hx
        cases x with
        | tup xs => cases this
        | non => cases this
        | _ => exact ⟨by simp [toPy], fun xs => by simp [toPy]⟩
    · obtain ⟨p', hp', rfl⟩ := List.mem_map.mp hp
      exact (o3 _ (mem p' hp')).2
    · rw [List.length_map, ← szL_eq]
      rw [← e2, List.length_map] at o4
      exact o4
    · rw [reps_mono_pick (H := H) (fun p : V × D => (p.1, toPy p.2)) (fun _ => rfl) qs]
      have e3 : (qs.mergeSort fun p q => leD p.2 q.2).map (·.2) = ds.mergeSort leD := by
        rw [List.map_mergeSort (s := leD), e2]
        intro a _ b _; rfl
      refine q r _ _ rfl hr ?_
      rw [← e3]
      exact reps_of _ fun p hp => hq p ((List.mergeSort_perm _ _).mem_iff.mp hp)
theorem repK_zip {K : KK} {H : Hp} : ∀ {kvs : List (Key × V)} {ds : List (D × D)}, RepK K H kvs ds →
    ∃ qs : List (V × D), qs.map (·.2) = ds.map (·.1) ∧ (∀ p ∈ qs, Rep K H p.1 p.2) ∧ (qs.map fun p => (p.1, toPy p.2)) = kvs.map fun kv => (kV kv.1, keyData kv.1)
  | _, _, .nil => ⟨[], rfl, (fun p h => by cases h), rfl⟩
  | _, _, .cons (k := k) (x := x) e r t => by
    obtain ⟨qs, h1, h2, h3⟩ := repK_zip t
    refine ⟨(kV k, x) :: qs, by simp [h1], fun p hp => ?_, ?_⟩
    · rcases List.mem_cons.mp hp with z | hp
      · subst z
        cases x with
        | int i => simp only [keyD, Option.some.injEq] at e; subst e; exact .int i
        | str y => simp only [keyD, Option.some.injEq] at e; subst e; exact .str y
        | _ => cases e
      · exact h2 p hp
    · simp only [List.map_cons, h3, List.cons.injEq, Prod.mk.injEq, true_and, and_true]
      cases x with
      | int i => simp only [keyD, Option.some.injEq] at e; subst e; rfl
      | str y => simp only [keyD, Option.some.injEq] at e; subst e; rfl
      | _ => cases e
theorem repT_zip {K : KK} {H : Hp} : ∀ {xs : List (List Key × Addr × Value)} {ds : List (D × D)}, RepT K H xs ds → ∃ qs : List (V × D), qs.map (·.1) = (xs.map fun x => V.ref x.2.1) ∧ qs.map (·.2) = ds.map (·.1) ∧ ∀ p ∈ qs, Rep K H p.1 p.2
  | _, _, .nil => ⟨[], rfl, rfl, fun p h => by cases h⟩
  | _, _, .cons (b := b) (x := x) k rb ru rv t => by
    obtain ⟨qs, h1, h2, h3⟩ := repT_zip t
    refine ⟨(.ref b, x) :: qs, by simp [h1], by simp [h2], fun p hp => ?_⟩
    rcases List.mem_cons.mp hp with z | hp
    · subst z; exact rb
    · exact h3 p hp
theorem s_srtF {own : List Addr} {H : Hp} {vs : List V} {ds : List D} {z : D} {Q : VK} (tr : ∀ a, a ∈ own → ∃ o, H a = some o) (hr : RepBs X.KK own H vs ds) (hz : srtD ds = some z)
    (q : ∀ r ws es, z = .lst es → H r = none → Reps X.KK (hid own H) ws es → Q (.ref r) (upd H r (.lst ws))) : rSrt X vs H Q := by
  unfold srtD at hz
  split at hz
  · obtain ⟨v, rfl, r⟩ := hr.one
    obtain ⟨a, ws, rfl, ha, ra⟩ := r.lst_
    obtain ⟨qs, e1, e2, e3⟩ := reps_zip ra
    exact srt_core tr e3 e2 (.inl (by rw [e1]; exact .of ha)) hz q
  · obtain ⟨v, rfl, r⟩ := hr.one
    obtain ⟨a, ws, o, rfl, _, ha, _, ra⟩ := r.tup_
    obtain ⟨qs, e1, e2, e3⟩ := reps_zip ra
    exact srt_core tr e3 e2 (.inr (.inl (by rw [e1]; exact .inl (.inr ⟨_, ha⟩)))) hz q
  · obtain ⟨v, rfl, r⟩ := hr.one
    obtain ⟨a, ws, rfl, ha, ra⟩ := r.dk_
    obtain ⟨qs, e2, e3, e4⟩ := repK_zip ra
    exact srt_core tr e3 e2 (.inr (.inr (.inl ⟨ws, ha, e4⟩))) hz q
  · obtain ⟨v, rfl, r⟩ := hr.one
    obtain ⟨a, xs, rfl, ha, ra⟩ := r.dkT_
    obtain ⟨qs, e1, e2, e3⟩ := repT_zip ra
    exact srt_core tr e3 e2 (.inr (.inr (.inr ⟨xs, ha, e1⟩))) hz q
  · cases hz
theorem s_srt : ServesC X.KK (rSrt X) srtD := by
  intro own H vs ds z Q tr hr hz q
  refine s_srtF tr hr hz fun r ws es e hn rw' => ?_
  subst e
  obtain ⟨s1, r1⟩ := Rep.new_lst tr hn rw'
  exact q _ _ s1 r1
end
def putD (kvs : List (D × D)) (k : Key) (x v : D) : List (D × D) :=
  if (kvs.any fun p => decide (keyD p.1 = some k)) = true then kvs.map (fun p => if keyD p.1 = some k then (p.1, v) else p) else kvs ++ [(x, v)]
section
variable {K : KK}
theorem RepK.any {H : Hp} (k : Key) : ∀ {kvs : List (Key × V)} {ds : List (D × D)}, RepK K H kvs ds → (kvs.any fun kv => decide (kv.1 = k)) = ds.any fun p => decide (keyD p.1 = some k)
  | _, _, .nil => rfl
  | _, _, .cons e _ t => by
    rw [List.any_cons, List.any_cons, RepK.any k t]
    congr 1
    simp only [e, Option.some.injEq]
theorem RepK.len {H : Hp} : ∀ {kvs : List (Key × V)} {ds : List (D × D)}, RepK K H kvs ds → kvs.length = ds.length
  | _, _, .nil => rfl
  | _, _, .cons _ _ t => congrArg Nat.succ (RepK.len t)
theorem RepK.map {H : Hp} {k : Key} {v : V} {d : D} (r : Rep K H v d) : ∀ {kvs : List (Key × V)} {ds : List (D × D)}, RepK K H kvs ds →
    RepK K H (kvs.map fun kv => if kv.1 = k then (kv.1, v) else kv) (ds.map fun p => if keyD p.1 = some k then (p.1, d) else p)
  | _, _, .nil => .nil
  | _, _, .cons (k := k') (v := v') (vs := vs) (x := x) (d := d') (ds := ds) e r' t => by
    rw [List.map_cons, List.map_cons]
    by_cases h : k' = k
    · have e2 : keyD x = some k := h ▸ e
      simp only [h, if_true, e2]
      exact .cons e2 r (RepK.map r t)
    · have e2 : ¬ keyD x = some k := fun z => h (by rw [e] at z; exact Option.some.inj z)
      simp only [h, if_false, e2]
      exact .cons e r' (RepK.map r t)
theorem RepK.app {H : Hp} : ∀ {kvs ks : List (Key × V)} {ds es : List (D × D)}, RepK K H kvs ds → RepK K H ks es → RepK K H (kvs ++ ks) (ds ++ es)
  | _, _, _, _, .nil, s => s
  | _, _, _, _, .cons e r t, s => .cons e r (RepK.app t s)
theorem RepK.put {H : Hp} {k : Key} {v : V} {x d : D} {kvs : List (Key × V)} {ds : List (D × D)} (t : RepK K H kvs ds) (e : keyD x = some k) (r : Rep K H v d) : RepK K H (putK kvs k v) (putD ds k x d) := by
  unfold putK putD
  rw [t.any k]
  split
  · exact t.map r
  · exact t.app (.cons e r .nil)
end
def pairsD : List D → Option (List (D × D))
  | [] => some []
  | .tup [k, v] :: r => if (keyD k).isSome then (pairsD r).map fun ps => (k, v) :: ps else none
  | _ => none
def mergeD (acc : List (D × D)) : List (D × D) → List (D × D)
  | [] => acc
  | p :: r => match keyD p.1 with
    | some k => mergeD (putD acc k p.1 p.2) r
    | none => mergeD acc r
def dictD : List D → Option D
  | [.lst ds] => (pairsD ds).map fun ps => .dk (mergeD [] ps)
  | _ => none
def rDictP (X : Cx) : List V → Hp → VK → Prop := fun xs H Q => ∃ (a : Addr) (ps : List Addr) (kvs : List (Key × V)), xs = [.ref a] ∧ SqL X.KK H a (ps.map V.ref) ∧ Paired (fun p kv => SqT X.KK H p [kV kv.1, kv.2]) ps kvs ∧
  ∀ p, H p = none → Q (.ref p) (upd H p (.dK (mergeK [] kvs)))
theorem cr_dictP {X : Cx} (hc : X.calm = true) : CallR X (.type "dict") (rDictP X) := call_dictP hc
theorem RepK.merge {K : KK} {H : Hp} : ∀ {kvs : List (Key × V)} {ps : List (D × D)}, RepK K H kvs ps → ∀ {acc : List (Key × V)} {ds : List (D × D)}, RepK K H acc ds → RepK K H (mergeK acc kvs) (mergeD ds ps)
  | _, _, .nil, _, _, h => h
  | _, _, .cons e r t, acc, ds, h => by
    unfold mergeD
    rw [e]
    exact RepK.merge t (h.put e r)
theorem pairs_rep {K : KK} {own : List Addr} {H : Hp} : ∀ {vs : List V} {ds : List D} {ps : List (D × D)}, Reps K (hid own H) vs ds → pairsD ds = some ps →
    ∃ (as : List Addr) (kvs : List (Key × V)), vs = as.map V.ref ∧ Paired (fun p kv => SqT K H p [kV kv.1, kv.2]) as kvs ∧ RepK K (hid own H) kvs ps
  | _, [], _, .nil, h => by
    cases h
    exact ⟨[], [], rfl, .nil, .nil⟩
  | _, d :: ds, ps, .cons r t, h => by
    unfold pairsD at h
    split at h
    · rename_i e; cases e
    · rename_i k v rest e
      cases e
      split at h
      case isFalse => cases h
      case isTrue hk =>
        simp only [Option.map_eq_some_iff] at h
        obtain ⟨ps', h1, rfl⟩ := h
        obtain ⟨as, kvs, e1, e2, e3⟩ := pairs_rep t h1
        cases r with
        | tup ha hn ra =>
          cases ra with
          | cons r1 t1 =>
            cases t1 with
            | cons r2 t2 =>
              cases t2
              cases q : keyD k with
              | none => rw [q] at hk; cases hk
              | some kk =>
                have ek := keyD_ok r1 q
                subst ek
                refine ⟨_ :: as, (kk, _) :: kvs, by rw [e1]; rfl, .cons (.inl (.inr ⟨_, hid_le _ _ _ _ ha⟩)) e2, .cons q r2 e3⟩
    · cases h
theorem s_dictF {X : Cx} {own : List Addr} {H : Hp} {vs : List V} {ds : List D} {z : D} {Q : VK} (hr : RepBs X.KK own H vs ds) (hz : dictD ds = some z)
    (q : ∀ r ws es, z = .dk es → H r = none → RepK X.KK (hid own H) ws es → Q (.ref r) (upd H r (.dK ws))) : rDictP X vs H Q := by
  unfold dictD at hz
  split at hz
  · obtain ⟨v, rfl, r⟩ := hr.one
    obtain ⟨a, ws, rfl, ha, ra⟩ := r.lst_
    simp only [Option.map_eq_some_iff] at hz
    obtain ⟨ps, h1, rfl⟩ := hz
    obtain ⟨as, kvs, e1, e2, e3⟩ := pairs_rep ra h1
    subst e1
    exact ⟨a, as, kvs, rfl, .of ha, e2, fun p hp => q p _ _ rfl hp (RepK.merge e3 .nil)⟩
  · cases hz
theorem Rep.new_dk {K : KK} {own : List Addr} {H : Hp} {p : Addr} {vs : List (Key × V)} {ds : List (D × D)} (tr : ∀ a, a ∈ own → ∃ o, H a = some o) (hp : H p = none) (r : RepK K (hid own H) vs ds) :
    Same H (upd H p (.dK vs)) ∧ Rep K (hid own (upd H p (.dK vs))) (.ref p) (.dk ds) :=
  ⟨same_upd hp, .dk (.inl (hid_of (own_ne tr hp) upd_same)) (r.mono (hid_same_upd hp))⟩
theorem s_dict {X : Cx} : ServesC X.KK (rDictP X) dictD := by
  intro own H vs ds z Q tr hr hz q
  refine s_dictF hr hz fun r ws es e hn rw' => ?_
  subst e
  obtain ⟨s1, r1⟩ := Rep.new_dk tr hn rw'
  exact q _ _ s1 r1
def cntD : D → D → Option D
  | .lst ds, x => if fine (.lst ds) && fine x then some (.int ((ds.countP fun d => eqD d x : Nat) : Int)) else none
  | _, _ => none
def rCntD (K : KK) : V → List V → Hp → VK → Prop := fun x xs H Q => ∃ (a : Addr) (y : V) (d : PyData) (ds : List PyData), x = V.ref a ∧ xs = [y] ∧ Dp K H (V.ref a) (.list ds) ∧ Dp K H y d ∧
  SeqAt.shaped (.list ds) = true ∧ SeqAt.shaped d = true ∧ Q (.int ((ds.countP fun z => PyData.eqv z d : Nat) : Int)) H
theorem mt_cntD {X : Cx} (hu : X.A.units + 65 < cLine) : MtR X "list.count" (rCntD X.KK) := by
  intro pins s σ H x xs v us Q I rx rxs h
  obtain ⟨a, y, d, ds, rfl, rfl, hl, hy, sl, sd, q⟩ := h
  cases rx
  cases rxs with
  | cons ry rt =>
    rename_i uy ut
    cases rt
    obtain ⟨bs, r1⟩ := Dp.reads I d y uy hy ry
    have hxs : PyData.canLayAll0 ds = true := SeqAt.canLay_of_shaped sl
    have hroom : X.A.units + 1 + min (PyData.depthAll ds) d.depth < cLine := PyProof.Rows.room_in_shaped sd hu
    cases hl with
    | lst hs ha =>
      obtain ⟨its, rv, ⟨⟨cls, dd, data, sls⟩, n, ho, hc, hdn, hdt⟩, hlen⟩ := I.list hs
      simp only at hc hdt
      subst hc hdt
      obtain ⟨as, h4⟩ := Dp.readsAll I ds _ its ha rv
      have hmap : its.map (SeqAt.readOf s.heap) = ds := SeqAt.readsAll_map ds its as hxs h4
      refine call_meets PySem.F.slot_list_count ⟨_, ho, rfl⟩ PySem.F.entry_list_count (PySem.F.args_list_count_2 _ _)
        (SeqAt.list_countAt a its.toArray n dd sls uy (fun u => PyData.eqv (SeqAt.readOf s.heap u) d)) ⟨ho, SeqAt.items_eqAt (vs := its.toArray) (show ReadsAll s.heap its.toArray.toList ds as from h4) r1 hxs (SeqAt.canLay_of_shaped sd) hroom, ?_⟩
      refine ⟨.int ((ds.countP fun z => PyData.eqv z d : Nat) : Int), H, I.tok _, ⟨s.toks, ?_⟩, q⟩
      rw [← hmap, List.countP_map]
      rfl
theorem toPys_map : ∀ ds : List D, toPys ds = ds.map toPy
  | [] => rfl
  | d :: ds => by simp only [toPys, List.map_cons, toPys_map ds]
theorem s_cnt {X : Cx} {own : List Addr} {H : Hp} {x y : V} {d e z : D} {Q : VK} (hx : RepB X.KK own H x d) (hy : RepB X.KK own H y e) (hz : cntD d e = some z) (q : ∀ v H', Same H H' → Rep X.KK (hid own H') v z → Q v H') : rCntD X.KK x [y] H Q := by
  unfold cntD at hz
  split at hz
  · split at hz
    case isFalse => cases hz
    case isTrue hf =>
      cases hz
      simp only [Bool.and_eq_true] at hf
      obtain ⟨a, vs, rfl, ha, ra⟩ := hx.lst_
      refine ⟨a, y, _, _, rfl, rfl, RepB.dp hx hf.1, RepB.dp hy hf.2, hf.1, hf.2, ?_⟩
      rw [toPys_map, List.countP_map]
      exact q _ _ (Same.refl _) (.int _)
  · cases hz
def signsD (x : T) : List D := x.map fun c => D.str [c]
def tupSD : List D → Option D
  | [.str x] => if x.length ≤ szL then some (.tup (signsD x)) else none
  | _ => none
def lstSD : List D → Option D
  | [.str x] => if x.length ≤ szL then some (.lst (signsD x)) else none
  | _ => none
def isFig (c : Nat) : Bool := decide (48 ≤ c ∧ c < 58)
def intSD : List D → Option D
  | [.str [c]] => if isFig c then some (.int ((c - 48 : Nat) : Int)) else none
  | [.str [c, d]] => if isFig c && isFig d then some (.int ((10 * (c - 48) + (d - 48) : Nat) : Int)) else none
  | _ => none
def maxTD : List D → Option D
  | [.tup (.int n :: ds)] => if ds.length ≤ 1000 then (intsD ds).map fun ns => D.int (maxI n ns) else none
  | _ => none
def signsV (x : T) : List V := x.map fun c => V.str (mkS [c])
theorem signs_rep {K : KK} {H : Hp} : ∀ x : T, Reps K H (signsV x) (signsD x)
  | [] => .nil
  | c :: x => .cons (.str [c]) (signs_rep x)
theorem signs_vals {x : T} {acc : Array Value} (h : ItemsOf (SignAt (mkS x)) acc (mkS x).cps.size) : Vals (signsV x) acc.toList := by
  have hl : acc.toList.length = x.length := by rw [Array.length_toList, h.1]; exact mkS_len x
  have : ∀ (y : T) (us : List Value), us.length = y.length → (∀ (j : Nat) (v : Value) (c : Nat), us[j]? = some v → y[j]? = some c → ∃ t, v = .str (mkS [c]) t) → Vals (signsV y) us := by
    intro y
    induction y with
    | nil => intro us h1 _; rw [List.eq_nil_of_length_eq_zero h1]; exact .nil
    | cons c y ih =>
      intro us h1 h2
      cases us with
      | nil => simp at h1
      | cons u us => exact .cons (h2 0 u c rfl rfl) (ih us (by simpa using h1) fun j v d e1 e2 => h2 (j + 1) v d (by simpa using e1) (by simpa using e2))
  refine this x acc.toList hl fun j v c e1 e2 => ?_
  obtain ⟨d, t, h1, h2⟩ := h.2 j v (by rw [← Array.getElem?_toList]; exact e1)
  have e3 : x[j]? = some d := by
    have := h1
    simp only [mkS, List.getElem?_toArray] at this
    exact this
  rw [e2] at e3
  cases e3
  exact ⟨t, h2⟩
section
variable {X : Cx}
def rTupS : List V → Hp → VK → Prop := fun xs H Q => ∃ z : T, xs = [.str (mkS z)] ∧ z.length ≤ sizeLine ∧ ∀ p o, H p = none → o.dict = none → Q (.ref p) (upd H p (.frz o (.tup (signsV z))))
theorem cr_tupS (hc : X.calm = true) : CallR X (.type "tuple") rTupS := by
  intro pins s σ H vs us Q I r h
  obtain ⟨z, e, hz, q⟩ := h
  subst e
  obtain ⟨u, eu, ru⟩ := vals1 r
  obtain ⟨t, et⟩ := ru
  subst eu et
  refine call_tuple_str (I.ok.hd hc) (mkS z) t (fun h' tk acc k1 k2 => ?_) (by show (mkS z).length ≤ _; rw [mkS_len]; exact hz)
  have I1 : Inv X pins σ H { s with heap := h', toks := tk } := I.kept k1
  have hv := signs_vals k2
  have hlen : (signsV z).length ≤ sizeLine := by unfold signsV; rw [List.length_map]; exact hz
  refine ⟨.ref h'.objs.size, _, I1.laid (t' := tk) (o := .frz { cls := .type "tuple", data := .seq acc } (.tup (signsV z))) (fun b o e => Heap.get?_push_of_some _ e) (Nat.le_refl _) ⟨Heap.get?_push_size _ rfl, hlen, acc.toList, hv, ?_⟩, rfl, q _ _ (I1.hok.fresh (Nat.le_refl _)) rfl⟩
  rw [Array.toArray_toList]
  exact PyProof.Rows.IsTup.new _ _
theorem s_tupS : ServesC X.KK rTupS tupSD := by
  intro own H vs ds z Q tr hr hz q
  unfold tupSD at hz
  split at hz
  · split at hz
    case isFalse => cases hz
    case isTrue hl =>
      cases hz
      obtain ⟨v, rfl, r⟩ := hr.one
      cases r.str_
      refine ⟨_, rfl, by rw [← szL_eq]; exact hl, fun p o hp ho => ?_⟩
      obtain ⟨s1, r1⟩ := Rep.new_tup tr hp ho (signs_rep (K := X.KK) (H := hid own H) _)
      exact q _ _ s1 r1
  · cases hz
def rLstS : List V → Hp → VK → Prop := fun xs H Q => ∃ z : T, xs = [.str (mkS z)] ∧ z.length ≤ sizeLine ∧ ∀ p, H p = none → Q (.ref p) (upd H p (.lst (signsV z)))
theorem cr_lstS (hc : X.calm = true) : CallR X (.type "list") rLstS := by
  intro pins s σ H vs us Q I r h
  obtain ⟨z, e, hz, q⟩ := h
  subst e
  obtain ⟨u, eu, ru⟩ := vals1 r
  obtain ⟨t, et⟩ := ru
  subst eu et
  refine call_list_str (I.ok.hd hc) (mkS z) t (fun h' tk acc c k1 k3 k2 => ?_) (by show (mkS z).length ≤ _; rw [mkS_len]; exact hz)
  have hv := signs_vals k2
  have hlen : (signsV z).length ≤ sizeLine := by unfold signsV; rw [List.length_map]; exact hz
  exact ⟨.ref s.heap.objs.size, _, I.laid (t' := tk) (o := .lst (signsV z)) k1 (Nat.le_refl _) ⟨hlen, acc.toList, c, hv, by rw [Array.toArray_toList]; exact k3⟩, rfl, q _ (I.hok.fresh (Nat.le_refl _))⟩
theorem s_lstS : ServesC X.KK rLstS lstSD := by
  intro own H vs ds z Q tr hr hz q
  unfold lstSD at hz
  split at hz
  · split at hz
    case isFalse => cases hz
    case isTrue hl =>
      cases hz
      obtain ⟨v, rfl, r⟩ := hr.one
      cases r.str_
      refine ⟨_, rfl, by rw [← szL_eq]; exact hl, fun p hp => ?_⟩
      obtain ⟨s1, r1⟩ := Rep.new_lst tr hp (signs_rep (K := X.KK) (H := hid own H) _)
      exact q _ _ s1 r1
  · cases hz
abbrev rIntS : List V → Hp → VK → Prop := fun xs H Q => ∃ a n, xs = [.str a] ∧ PySem.intText? a = some n ∧ a.length ≤ 640 ∧ Q (.int n) H
theorem fig1 : ∀ c : Fin 10, PySem.intText? (mkS [c.val + 48]) = some ((c.val : Nat) : Int) := by decide +kernel
theorem fig2 : ∀ c d : Fin 10, PySem.intText? (mkS [c.val + 48, d.val + 48]) = some ((10 * c.val + d.val : Nat) : Int) := by decide +kernel
theorem isFig_iff {c : Nat} (h : isFig c = true) : 48 ≤ c ∧ c < 58 := of_decide_eq_true h
theorem s_intS : ServesC X.KK rIntS intSD := by
  intro own H vs ds z Q tr hr hz q
  unfold intSD at hz
  split at hz
  · split at hz
    case isFalse => cases hz
    case isTrue hl =>
      cases hz
      rename_i c
      obtain ⟨v, rfl, r⟩ := hr.one
      cases r.str_
      have hc := isFig_iff hl
      have := fig1 ⟨c - 48, by omega⟩
      simp only [show c - 48 + 48 = c by omega] at this
      exact ⟨_, _, rfl, this, (by rw [mkS_len]; simp), q _ _ (Same.refl _) (.int _)⟩
  · split at hz
    case isFalse => cases hz
    case isTrue hl =>
      cases hz
      rename_i c d
      obtain ⟨v, rfl, r⟩ := hr.one
      cases r.str_
      simp only [Bool.and_eq_true] at hl
      have hc := isFig_iff hl.1
      have hd := isFig_iff hl.2
      have := fig2 ⟨c - 48, by omega⟩ ⟨d - 48, by omega⟩
      simp only [show c - 48 + 48 = c by omega, show d - 48 + 48 = d by omega] at this
      exact ⟨_, _, rfl, this, (by rw [mkS_len]; simp), q _ _ (Same.refl _) (.int _)⟩
  · cases hz
def rMaxT (X : Cx) : List V → Hp → VK → Prop := fun vs H Q => ∃ (a : Addr) (n : Int) (ns : List Int), vs = [V.ref a] ∧ SqT X.KK H a ((n :: ns).map V.int) ∧ ns.length ≤ 1000 ∧ Q (.int (maxI n ns)) H
theorem depth_ints : ∀ ns : List Int, PyData.depthAll (ns.map PyData.int) ≤ 1
  | [] => by simp [PyData.depthAll]
  | n :: ns => by
    have := depth_ints ns
    simp only [List.map_cons, PyData.depthAll, PyData.depth]
    omega
theorem max_fold (n : Int) (ns : List Int) : ns.foldl max n = maxI n ns := by
  unfold maxI
  congr 1
  funext a b
  rw [Int.max_def]
  split <;> split <;> omega
theorem cr_maxT (hu : X.A.units + 65 < cLine) (hc : X.calm = true) : CallR X (.builtin "max") (rMaxT X) := by
  intro pins s σ H vs us Q I r h
  obtain ⟨a, n, ns, e, ht, hz, q⟩ := h
  subst e
  obtain ⟨u, eu, ru⟩ := vals1 r
  obtain rfl : u = Value.ref a := ru
  subst eu
  obtain ⟨its, rv, hl, _⟩ := I.tuple ht
  obtain ⟨as, hr⟩ := Dp.readsAll I ((n :: ns).map PyData.int) _ its (ints_dp (K := X.KK) (H := H) (n :: ns)) rv
  have hd := depth_ints (n :: ns)
  refine PySem.W.max_tuple_data (x := .int n) (xs := ns.map PyData.int) (I.ok.hd hc) hl hr ?_ (by have : PyData.depthAll (PyData.int n :: ns.map PyData.int) ≤ 1 := hd; omega) fun i v h' tk bs e1 e2 k => ?_
  · have mem : ∀ x ∈ (PyData.int n :: ns.map PyData.int), ∃ i, x = .int i := fun x hx => by
      rcases List.mem_cons.mp hx with e | hx
      · exact ⟨n, e⟩
      · obtain ⟨i, _, rfl⟩ := List.mem_map.mp hx
        exact ⟨i, rfl⟩
    refine ⟨fun x hx y hy => ?_, fun x hx => ?_⟩
    · obtain ⟨i, rfl⟩ := mem x hx
      obtain ⟨j, rfl⟩ := mem y hy
      rfl
    · obtain ⟨i, rfl⟩ := mem x hx
      simp
  · rw [PySem.W.maxD_ints, max_fold] at e2
    cases e2 with
    | int i t => exact ⟨.int (maxI n ns), H, I.kept k, ⟨t, rfl⟩, q⟩
theorem s_maxT : ServesC X.KK (rMaxT X) maxTD := by
  intro own H vs ds z Q tr hr hz q
  unfold maxTD at hz
  split at hz
  · split at hz
    case isFalse => cases hz
    case isTrue hl =>
      rename_i n ds'
      simp only [Option.map_eq_some_iff] at hz
      obtain ⟨ns, h1, rfl⟩ := hz
      obtain ⟨v, rfl, r⟩ := hr.one
      obtain ⟨a, ws, o, rfl, _, ha, _, ra⟩ := r.tup_
      have e := intsD_eq h1
      subst e
      have ei : ws = (n :: ns).map V.int := Reps.ints (ns := n :: ns) ra
      subst ei
      exact ⟨a, n, ns, rfl, .inl (.inr ⟨o, ha⟩), by rw [List.length_map] at hl; exact hl, q _ _ (Same.refl _) (.int _)⟩
  · cases hz
end
end PLq
namespace PLq
open PySem L2
theorem keysL_ok {K : KK} {H : Hp} : ∀ (ds : List D) {vs : List V} {ks : List Key}, keysL ds = some ks → Reps K H vs ds → vs = ks.map kV
  | [], vs, ks, e, r => by cases r; cases e; rfl
  | d :: ds, vs, ks, e, r => by
    cases r with
    | cons r t =>
      unfold keysL at e
      cases h1 : keyD d with
      | none => rw [h1] at e; cases e
      | some k =>
        cases h2 : keysL ds with
        | none => rw [h1, h2] at e; cases e
        | some l =>
          rw [h1, h2] at e
          cases e
          rw [List.map_cons, keyD_ok r h1, keysL_ok ds h2 t]
theorem keyT_ok {K : KK} {H : Hp} {v : V} {x : D} {ks : List Key} (e : keyT x = some ks) (r : Rep K H v x) : ∃ b o, v = .ref b ∧ H b = some (.frz o (.tup (ks.map kV))) := by
  cases r with
  | tup h n r =>
    have := keysL_ok _ e r
    subst this
    exact ⟨_, _, rfl, h⟩
  | _ => cases e
theorem key_is {P : Program} {w : World} {H : Hp} {h : Heap} {b : Addr} {o : Obj} {ks : List Key} (ok : HOk P w H h) (e : H b = some (.frz o (.tup (ks.map kV)))) : (tupleKind (mixKind P w)).is h ks b := by
  obtain ⟨_, _, its, r, o', h1, h2, n, h3⟩ := (show ObjOk P w H h b (.frz o (.tup (ks.map kV))) from ok b _ e)
  exact ⟨o', its.toArray, n, h1, h2, h3, by simpa using items_are r⟩
def Kts (H : Hp) (xs : List (List Key × Addr × Value)) : Prop := ∀ x ∈ xs, ∃ o, H x.2.1 = some (.frz o (.tup (x.1.map kV)))
theorem RepT.kts {K : KK} {H : Hp} : ∀ {xs : List (List Key × Addr × Value)} {ds : List (D × D)}, RepT K H xs ds → Kts H xs
  | _, _, .nil => fun x h => by cases h
  | _, _, .cons k rb ru rv t => fun x h => by
    rcases List.mem_cons.mp h with rfl | h
    · obtain ⟨b, o, e1, e2⟩ := keyT_ok k rb
      cases e1
      exact ⟨o, e2⟩
    · exact t.kts x h
theorem RepT.len {K : KK} {H : Hp} : ∀ {xs : List (List Key × Addr × Value)} {ds : List (D × D)}, RepT K H xs ds → xs.length = ds.length
  | _, _, .nil => rfl
  | _, _, .cons _ _ _ _ t => congrArg Nat.succ (RepT.len t)
def rSetTK (P : Program) (w : World) : TSet := fun o i v H Q => ∃ a b ks xs ob, o = .ref a ∧ i = .ref b ∧ H a = some (rawT P w a xs) ∧ H b = some (.frz ob (.tup (ks.map kV))) ∧ Kts H xs ∧ xs.length < sizeLine ∧
  ∀ u, RelV v u → Q (upd H a (rawT P w a (storedH xs ks b u)))
theorem storedH_len (xs : List (List Key × Addr × Value)) (k : List Key) (b : Addr) (u : Value) : (storedH xs k b u).length ≤ xs.length + 1 := by
  unfold storedH
  split
  · rw [List.length_map]; omega
  · rw [List.length_append]; simp
theorem rawT_ok {P : Program} {w : World} {H : Hp} {h : Heap} {a : Addr} {xs : List (List Key × Addr × Value)} (lo : (a == sysModules) = false) (z : xs.length ≤ sizeLine) (d : h.DictOfH (tupleKind (mixKind P w)) a xs) : ObjOk P w H h a (rawT P w a xs) := by
  obtain ⟨o, es, ep, ho, hx, hd, he, _, nd⟩ := d
  exact ⟨⟨lo, z, nd, o, es, ep, ho, hx, hd, he⟩, ⟨o, ho⟩, fun h1 h2 ⟨l1, l2, l3, o', es', ep', k1, k2⟩ k => ⟨l1, l2, l3, o', es', ep', k o' k1, k2⟩⟩
theorem set_TK {X : Cx} (hu : X.A.units + 1 < cLine) : PSet X (rSetTK X.prog X.w) := by
  intro pins s σ H o i v ov iv u Q I ro ri rv h
  obtain ⟨a, b, ks, xs, ob, rfl, rfl, ha, hb, kt, z, q⟩ := h
  cases (show ov = Value.ref a from ro)
  cases (show iv = Value.ref b from ri)
  obtain ⟨⟨lo, z2, nd, o, es, ep, ho, hx, hd, he⟩, _, _⟩ := (show ObjOk X.prog X.w H s.heap a (rawT X.prog X.w a xs) from I.hok a _ ha)
  have dd : s.heap.DictOfH (tupleKind (mixKind X.prog X.w)) a xs := ⟨o, es, ep, ho, hx, hd, he, fun x hm => let ⟨_, e⟩ := kt x hm; key_is I.hok e, nd⟩
  refine PySem.wpAny_setItem_heap (hsz := z2) (tupleKind_room_in1 hu) (key_is I.hok hb) dd fun h' dd' sb => ⟨_, ?_, q u rv⟩
  have hz := storedH_len xs ks b u
  obtain ⟨o2, es2, ep2, k1, k2⟩ := id dd'
  exact d_write I (by rw [ha]; exact True.intro) sb ⟨o2, k1⟩ (rawT_ok lo (by omega) ⟨o2, es2, ep2, k1, k2⟩)
def tDNewR (P : Program) (w : World) : TE := fun _ H Q => ∀ p, H p = none → Q (.ref p) (upd H p (rawT P w p []))
theorem pe_dnewR {X : Cx} {pos : Pos} : PE X (.Dict [] [] pos) (tDNewR X.prog X.w) := ⟨fun pins s σ H Q I h =>
  wpAny_Dict_empty ⟨.ref s.heap.objs.size, _, I.laid (a := s.heap.objs.size) (t' := s.toks) (fun _ _ q => Heap.get?_push_of_some _ q) (Nat.le_refl _)
    (rawT_ok (xs := []) (beq_eq_false_iff_ne.mpr (Ne.symm (Nat.ne_of_lt I.big))) (Nat.zero_le _) ⟨_, #[], 0, Heap.get?_push_size _ rfl, ⟨rfl, rfl, rfl⟩, rfl, rfl, fun x h => (by cases h), List.nodup_nil⟩), rfl, h _ (I.hok.fresh (Nat.le_refl _))⟩⟩
def putT (kvs : List (D × D)) (k : List Key) (x v : D) : List (D × D) :=
  if (kvs.any fun p => decide (keyT p.1 = some k)) = true then kvs.map (fun p => if keyT p.1 = some k then (p.1, v) else p) else kvs ++ [(x, v)]
theorem RepT.any {K : KK} {H : Hp} (k : List Key) : ∀ {xs : List (List Key × Addr × Value)} {ds : List (D × D)}, RepT K H xs ds → (atKey xs k).isSome = ds.any fun p => decide (keyT p.1 = some k)
  | _, _, .nil => rfl
  | _, _, .cons (ks := k') (xs := xs) (x := x) (d := d) (ds := ds) e rb ru rv t => by
    rw [List.any_cons, ← RepT.any k t]
    unfold atKey
    rw [List.find?_cons]
    by_cases h : k' = k
    · subst h; simp [e]
    · have e2 : ¬ keyT x = some k := fun z => h (by rw [e] at z; exact Option.some.inj z)
      simp [h, e2]
theorem RepT.map {K : KK} {H : Hp} {k : List Key} {v : V} {u : Value} {d : D} (ru : RelV v u) (r : Rep K H v d) : ∀ {xs : List (List Key × Addr × Value)} {ds : List (D × D)}, RepT K H xs ds →
    RepT K H (xs.map (putAt k u)) (ds.map fun p => if keyT p.1 = some k then (p.1, d) else p)
  | _, _, .nil => .nil
  | _, _, .cons (ks := k') (x := x) e rb ru' rv t => by
    rw [List.map_cons, List.map_cons]
    unfold putAt
    by_cases h : k' = k
    · have e2 : keyT x = some k := h ▸ e
      simp only [h, if_true, e2]
      exact .cons e2 rb ru r (RepT.map ru r t)
    · have e2 : ¬ keyT x = some k := fun z => h (by rw [e] at z; exact Option.some.inj z)
      simp only [h, if_false, e2]
      exact .cons e rb ru' rv (RepT.map ru r t)
theorem RepT.app {K : KK} {H : Hp} : ∀ {xs ys : List (List Key × Addr × Value)} {ds es : List (D × D)}, RepT K H xs ds → RepT K H ys es → RepT K H (xs ++ ys) (ds ++ es)
  | _, _, _, _, .nil, s => s
  | _, _, _, _, .cons e rb ru rv t, s => .cons e rb ru rv (RepT.app t s)
theorem RepT.put {K : KK} {H : Hp} {k : List Key} {b : Addr} {v : V} {u : Value} {x d : D} {xs : List (List Key × Addr × Value)} {ds : List (D × D)} (t : RepT K H xs ds) (e : keyT x = some k) (rb : Rep K H (.ref b) x) (ru : RelV v u) (r : Rep K H v d) :
    RepT K H (storedH xs k b u) (putT ds k x d) := by
  unfold storedH putT
  rw [t.any k]
  by_cases h : (ds.any fun p => decide (keyT p.1 = some k)) = true
  · rw [if_pos h, if_pos h]; exact t.map ru r
  · rw [if_neg h, if_neg h]; exact t.app (.cons e rb ru r .nil)
end PLq
namespace PLq
open PySem L2
abbrev encP (p : Int × T) : D := .tup [.int p.1, .str p.2]
def itD : D → Option (Int × T)
  | .tup [.int i, .str x] => some (i, x)
  | _ => none
def itsD : List D → Option (List (Int × T))
  | [] => some []
  | d :: ds => match itD d, itsD ds with
    | some p, some ps => some (p :: ps)
    | _, _ => none
theorem itsD_eq : ∀ {ds : List D} {ps : List (Int × T)}, itsD ds = some ps → ds = ps.map encP
  | [], ps, h => by cases h; rfl
  | d :: ds, ps, h => by
    unfold itsD at h
    cases h1 : itD d with
    | none => rw [h1] at h; cases h
    | some p =>
      cases h2 : itsD ds with
      | none => rw [h1, h2] at h; cases h
      | some qs =>
        rw [h1, h2] at h
        cases h
        rw [List.map_cons, ← itsD_eq h2]
        unfold itD at h1
        split at h1
        · cases h1; rfl
        · cases h1
def minP (p : Int × T) (ps : List (Int × T)) : Int × T := ps.foldl (fun a y => if PySem.W.dataLt (toPy (encP y)) (toPy (encP a)) then y else a) p
def minLD : List D → Option D
  | [.lst ds] => match itsD ds with
    | some (p :: ps) => if ((p :: ps).all fun q => fine (encP q)) = true then some (encP (minP p ps)) else none
    | _ => none
  | _ => none
theorem minP_data (p : Int × T) : ∀ ps : List (Int × T), PySem.W.minD (toPy (encP p)) (ps.map fun q => toPy (encP q)) = toPy (encP (minP p ps)) := by
  intro ps
  unfold PySem.W.minD minP
  induction ps generalizing p with
  | nil => rfl
  | cons q ps ih =>
    rw [List.map_cons, List.foldl_cons, List.foldl_cons]
    split
    · exact ih q
    · exact ih p
theorem encP_inj {p q : Int × T} (h : toPy (encP p) = toPy (encP q)) : p = q := by
  obtain ⟨i, x⟩ := p
  obtain ⟨j, y⟩ := q
  simp only [encP, toPy, toPys, PyData.tuple.injEq, List.cons.injEq, PyData.int.injEq, PyData.str.injEq, and_true] at h
  rw [h.1, mkS_inj h.2]
def rMinL (X : Cx) : List V → Hp → VK → Prop := fun vs H Q => ∃ (a : Addr) (p : V × (Int × T)) (ps : List (V × (Int × T))), vs = [V.ref a] ∧ SqL X.KK H a ((p :: ps).map (·.1)) ∧ (∀ q ∈ p :: ps, Dp X.KK H q.1 (toPy (encP q.2)) ∧ (toPy (encP q.2)).canLay0 = true) ∧
  ∀ v, (v, minP p.2 (ps.map (·.2))) ∈ p :: ps → Q v H
theorem depth_its : ∀ ps : List (V × (Int × T)), PyData.depthAll (ps.map fun q => toPy (encP q.2)) ≤ 5
  | [] => by simp [PyData.depthAll]
  | p :: ps => by
    have := depth_its ps
    simp only [List.map_cons, PyData.depthAll, encP, toPy, toPys, PyData.depth] at this ⊢
    omega
theorem dps_all {K : KK} {H : Hp} : ∀ {ps : List (V × (Int × T))}, (∀ q ∈ ps, Dp K H q.1 (toPy (encP q.2))) → DpAll K H (ps.map (·.1)) (ps.map fun q => toPy (encP q.2))
  | [], _ => .nil
  | q :: ps, h => .cons (h q List.mem_cons_self) (dps_all fun r hr => h r (List.mem_cons_of_mem _ hr))
theorem cr_minL {X : Cx} (hu : X.A.units + 65 < cLine) (hc : X.calm = true) : CallR X (.builtin "min") (rMinL X) := by
  intro pins s σ H vs us Q I r h
  obtain ⟨a, p, ps, e, ht, hd, q⟩ := h
  subst e
  obtain ⟨u, eu, ru⟩ := vals1 r
  obtain rfl : u = Value.ref a := ru
  subst eu
  obtain ⟨its, rv, hl, _⟩ := I.list ht
  have hdp := dps_all fun q hq => (hd q hq).1
  obtain ⟨as, hr⟩ := Dp.readsAll I _ _ its hdp rv
  have dl := depth_its (p :: ps)
  have em : (p :: ps).map (fun q => toPy (encP q.2)) = toPy (encP p.2) :: (ps.map (·.2)).map fun q => toPy (encP q) := by rw [List.map_cons, List.map_map]; rfl
  rw [em] at hr dl
  refine PySem.W.min_list_data (I.ok.hd hc) hl.isList hr ⟨fun x hx y hy => ?_, fun x hx => ?_⟩ (by omega) fun i v h' tk bs e1 e2 k => ?_
  · rw [← em] at hx hy
    obtain ⟨q1, _, rfl⟩ := List.mem_map.mp hx
    obtain ⟨q2, _, rfl⟩ := List.mem_map.mp hy
    rfl
  · rw [← em] at hx
    obtain ⟨q1, _, rfl⟩ := List.mem_map.mp hx
    simp [toPy]
  · have e1 : its[i]? = some v := by rw [← Array.getElem?_toList] at e1; simpa using e1
    have lv := rv.length
    have hi : i < (p :: ps).length := by
      have := (List.getElem?_eq_some_iff.mp e1).1
      rw [List.length_map] at lv
      omega
    have get : ∀ {xs : List V} {ys : List Value} {j : Nat} {y : Value}, Vals xs ys → ys[j]? = some y → ∃ x, xs[j]? = some x ∧ RelV x y := by
      intro xs ys j y hv
      induction hv generalizing j with
      | nil => intro h; simp at h
      | cons r t ih =>
        intro h
        cases j with
        | zero => simp at h; subst h; exact ⟨_, rfl, r⟩
        | succ j => simpa using ih (by simpa using h)
    obtain ⟨x, hx, rx⟩ := get rv e1
    rw [List.getElem?_map, List.getElem?_eq_getElem hi] at hx
    have hx : (p :: ps)[i].1 = x := Option.some.inj hx
    have hm : (p :: ps)[i] ∈ p :: ps := List.getElem_mem hi
    obtain ⟨bs2, r2⟩ := Dp.reads (I.kept (h' := h') (t' := tk) k) _ x v (hx ▸ (hd _ hm).1) rx
    have un := PySem.SeqAt.Reads.unique _ _ _ _ _ (hd _ hm).2 r2 e2
    rw [minP_data] at un
    have eq : (p :: ps)[i].2 = minP p.2 (ps.map (·.2)) := encP_inj un
    refine ⟨x, H, I.kept k, rx, q x ?_⟩
    rw [← eq, ← hx]
    exact hm
theorem itsR {K : KK} {H : Hp} : ∀ {ps : List (Int × T)} {ws : List V}, Reps K H ws (ps.map encP) → ∃ qs : List (V × (Int × T)), qs.map (·.1) = ws ∧ qs.map (·.2) = ps ∧ ∀ q ∈ qs, Rep K H q.1 (encP q.2)
  | [], _, .nil => ⟨[], rfl, rfl, fun q h => by cases h⟩
  | p :: ps, _, .cons (v := v) r t => by
    obtain ⟨qs, h1, h2, h3⟩ := itsR t
    refine ⟨(v, p) :: qs, by simp [h1], by simp [h2], fun q hq => ?_⟩
    rcases List.mem_cons.mp hq with rfl | hq
    · exact r
    · exact h3 q hq
theorem s_minL {X : Cx} : ServesC X.KK (rMinL X) minLD := by
  intro own H vs ds z Q tr hr hz q
  unfold minLD at hz
  split at hz
  · split at hz
    · rename_i ds' p ps hi
      split at hz
      case isFalse => cases hz
      case isTrue hl =>
        cases hz
        obtain ⟨v, rfl, r⟩ := hr.one
        obtain ⟨a, ws, rfl, ha, ra⟩ := r.lst_
        have e := itsD_eq hi
        subst e
        obtain ⟨qs, h1, h2, h3⟩ := itsR ra
        cases qs with
        | nil => cases h2
        | cons q0 qs =>
          rw [List.map_cons, List.cons.injEq] at h2
          obtain ⟨h4, h5⟩ := h2
          refine ⟨a, q0, qs, rfl, .of (by rw [h1]; exact ha), fun q hq => (fun cl => ⟨Rep.dp ((h3 q hq).mono (hid_le own H)) cl, cl⟩) (SeqAt.canLay_of_shaped (List.all_eq_true.mp hl q.2 (by rw [← h4, ← h5]; exact List.mem_map.mpr ⟨q, hq, rfl⟩))), fun v hv => ?_⟩
          rw [h4, h5] at hv
          exact q v H (Same.refl _) (h3 _ hv)
    · cases hz
  · cases hz
end PLq
namespace SStr
open PySem PySem.Spec PyProof.Rows L2
def kS (v : Value) : Str := match v with
  | .str x _ => x
  | _ => Str.empty
def GS (w : World) (p : Int × Value) : Prop := ∃ x t, p.2 = Value.str x t ∧ p.1 = hashStr w x
abbrev keys (l : List (Int × Value)) : List Str := l.map fun p => kS p.2
structure SAt (w : World) (h : Heap) (a : Addr) (o : Obj) (es : Array (Int × Value)) (ep : Nat) (t : SetTable) (ks : List Str) : Prop where
  at_ : h.get? a = some o
  ex : o.ExactSet
  da : o.data = .set es ep t
  gs : ∀ p ∈ es.toList, GS w p
  pm : (keys es.toList).Perm ks
  nd : ks.Nodup
  sz : es.size < scanBound
  ft : t.fits es.size = true
  rs : Ris t.place.toList
  ld : w.params.followText "set-order" = true ∨ t.led = true
def SetS (w : World) (h : Heap) (a : Addr) (ks : List Str) : Prop := ∃ o es ep t, SAt w h a o es ep t ks
section
variable {P : Program} {w : World} {A : Around} {E : Value → Shared → Prop} {s : Shared} {a : Addr} {ks : List Str}
theorem gs_el {l : List (Int × Value)} (g : ∀ p ∈ l, GS w p) : ElemsOf (strKind P w) l := fun p hp => by
  obtain ⟨x, t, e1, e2⟩ := g p hp
  exact ⟨⟨x, by rw [e1]; exact strKind_is P w x t, e2⟩, by rw [e1]; rfl⟩
theorem gs_is {p : Int × Value} (g : GS w p) (x : Str) : (strKind P w).is x p.2 = true ↔ kS p.2 = x := by
  obtain ⟨y, t, e1, _⟩ := g
  rw [e1]
  show (Value.str y t).isStrOf x = true ↔ y = x
  constructor
  · intro h
    obtain ⟨u, e⟩ := Value.isStrOf_shape h
    injection e
  · rintro rfl
    exact strKind_is P w y t
theorem gs_mem {l : List (Int × Value)} (g : ∀ p ∈ l, GS w p) (x : Str) : x ∈ keys l ↔ ∃ p ∈ l, (strKind P w).is x p.2 = true := by
  rw [List.mem_map]
  exact ⟨fun ⟨p, h1, h2⟩ => ⟨p, h1, (gs_is (g p h1) x).mpr h2⟩, fun ⟨p, h1, h2⟩ => ⟨p, h1, (gs_is (g p h1) x).mp h2⟩⟩
theorem SAt.len {h : Heap} {o : Obj} {es : Array (Int × Value)} {ep : Nat} {t : SetTable} (R : SAt w h a o es ep t ks) : es.size = ks.length := by
  have := R.pm.length_eq
  rw [List.length_map, Array.length_toList] at this
  exact this
theorem tailS {gv : Bool → Sem Unit} (hgv : ∀ (b : Bool) (s1 : Shared) (Q1 : Unit → Shared → Prop), Q1 () s1 → wpAny (model P w) A (gv b) Q1 E s1)
    {o : Obj} {es : Array (Int × Value)} {ep : Nat} {t : SetTable} (at0 : s.heap.get? a = some o) (ex0 : o.ExactSet) (da0 : o.data = .set es ep t)
    {e1 : Array (Int × Value)} {t1 : SetTable} (g1 : ∀ p ∈ e1.toList, GS w p) (p1 : (keys e1.toList).Perm ks) (n1 : ks.Nodup)
    (z1 : e1.size < scanBound) (f1 : t1.fits e1.size = true) (r1 : Ris t1.place.toList) (l1 : w.params.followText "set-order" = true ∨ t1.led = true) {was : Bool} {R : Option Bool → Shared → Prop}
    (hR : ∀ h', Heap.SameBut a s.heap h' → SetS w h' a ks → R (some true) { s with heap := h' }) :
    wpAny (model P w) A (do
        storeSet a e1 t1
        if (!was && t1.tooFull) = true then do
            gv (relayAll t1 e1 (SetTable.grown e1.size)).2.2
            storeSet a (relayAll t1 e1 (SetTable.grown e1.size)).1 (relayAll t1 e1 (SetTable.grown e1.size)).2.1
            pure (some true)
          else pure (some true)) R E s := by
  refine wpAny_bind (wpAny_storeSet_of at0 da0 ?_ (fits_of_scanBound z1))
  have at1 := store_at (es' := e1) (t' := t1) at0 da0
  have b1 := Heap.SameBut.update s.heap a (Obj.putSet e1 t1)
  split
  · have q1 := relayAll_perm t1 e1 (SetTable.grown e1.size)
    have q2 := relayAll_fits t1 e1 (SetTable.grown e1.size)
    have q3 := relayAll_ris t1 e1 (SetTable.grown e1.size)
    have q4 := relayAll_led t1 e1 (SetTable.grown e1.size)
    generalize relayAll t1 e1 (SetTable.grown e1.size) = Y at q1 q2 q3 q4 ⊢
    obtain ⟨e2, t2, gave⟩ := Y
    dsimp only at q1 q2 q3 q4 ⊢
    have z2 : e2.size = e1.size := by rw [← Array.length_toList, q1.length_eq, Array.length_toList]
    refine wpAny_bind (hgv _ _ _ (wpAny_bind (wpAny_storeSet_of at1 rfl ?_ (fits_of_scanBound (by rw [z2]; exact z1)))))
    have at2 := store_at (es' := e2) (t' := t2) at1 rfl
    exact wpAny_pure (hR _ (b1.trans (Heap.SameBut.update _ a _)) ⟨_, e2, _, t2, at2, ex0, rfl, fun p hp => g1 p (q1.mem_iff.mp hp), (q1.map _).trans p1, n1, by rw [z2]; exact z1, q2, q3, l1.imp id fun z => by rw [q4]; exact z⟩)
  · exact wpAny_pure (hR _ b1 ⟨_, e1, _, t1, at1, ex0, rfl, g1, p1, n1, z1, f1, r1, l1⟩)
theorem addS {x : Str} {u : Tok} {Q : Bool → Shared → Prop} (R : SetS w s.heap a ks) (room : ks.length + 1 < scanBound)
    (hQ : ∀ h', Heap.SameBut a s.heap h' → SetS w h' a (if x ∈ ks then ks else x :: ks) → Q (!decide (x ∈ ks)) { s with heap := h' }) :
    wpAny (model P w) A (setAddHashed a (.str x u) ((strKind P w).hash x)) Q E s := by
  obtain ⟨o, es, ep, t, T⟩ := R
  have el : ElemsOf (strKind P w) es.toList := gs_el T.gs
  have kx : (strKind P w).is x (.str x u) = true := strKind_is P w x u
  unfold setAddHashed setAddHashedIn
  refine wpAny_holding (wpAny_bind (wpAny_setState_of T.at_ T.da T.ft ?_))
  dsimp only
  rw [byScan_of rfl T.sz el]
  simp only [↓reduceIte]
  unfold setAddByScan
  refine wpAny_bind (wpAny_bind (wpAny_rule (wpAny_bind (wpAny_setScan_of kx T.at_ T.da T.ft el ?_))))
  cases fi : List.findIdx? (fun p => (strKind P w).is x p.2) es.toList with
  | some j =>
    dsimp only
    obtain ⟨hj, pj, _⟩ := List.findIdx?_eq_some_iff_getElem.mp fi
    have hm : x ∈ ks := T.pm.mem_iff.mp ((gs_mem (P := P) T.gs x).mpr ⟨es.toList[j], List.getElem_mem hj, pj⟩)
    have q := hQ s.heap (Heap.SameBut.refl a s.heap) (by rw [if_pos hm]; exact ⟨o, es, ep, t, T⟩)
    rw [decide_eq_true hm] at q
    exact wpAny_pure (wpAny_pure q)
  | none =>
    dsimp only
    have hm : x ∉ ks := fun z => by
      obtain ⟨p, hp, q⟩ := (gs_mem (P := P) T.gs x).mp (T.pm.mem_iff.mpr z)
      have c := List.findIdx?_eq_none_iff.mp fi p hp
      rw [q] at c
      cases c
    have gw : ∀ (b : Bool) {s1 : Shared} {Q1 : Unit → Shared → Prop}, Q1 () s1 → wpAny (model P w) A (match b with | true => rule "set.scan.the-table-gave-way" | false => pure ()) Q1 E s1 :=
      fun b s1 Q1 q => by cases b <;> first | exact wpAny_pure q | exact wpAny_rule q
    have q1 := layNew_perm t es ((strKind P w).hash x) (.str x u)
    have q2 := layNew_fits t es ((strKind P w).hash x) (.str x u)
    have q3 := layNew_ris t es ((strKind P w).hash x) (.str x u) T.rs
    have q4 := layNew_led t es ((strKind P w).hash x) (.str x u)
    generalize layNew t es ((strKind P w).hash x) (.str x u) = Y at q1 q2 q3 q4 ⊢
    obtain ⟨e1, t1, was, gave⟩ := Y
    dsimp only at q1 q2 q3 q4 ⊢
    rw [Array.toList_push] at q1
    have pc : e1.toList.Perm (((strKind P w).hash x, Value.str x u) :: es.toList) := q1.trans (List.perm_append_singleton _ _)
    have pk : (keys e1.toList).Perm (x :: ks) := (pc.map _).trans (T.pm.cons x)
    have g1 : ∀ p ∈ e1.toList, GS w p := fun p hp => by
      rcases List.mem_cons.mp (pc.mem_iff.mp hp) with z | z
      · rw [z]; exact ⟨x, u, rfl, rfl⟩
      · exact T.gs p z
    have n1 : (x :: ks).Nodup := List.nodup_cons.mpr ⟨hm, T.nd⟩
    have z1 : e1.size < scanBound := by
      have := pk.length_eq
      rw [List.length_map, Array.length_toList, List.length_cons] at this
      rw [this]; exact room
    have l1 : w.params.followText "set-order" = true ∨ t1.led = true := T.ld.imp id fun z => by rw [q4]; exact z
    have fin : ∀ h', Heap.SameBut a s.heap h' → SetS w h' a (x :: ks) → Q true { s with heap := h' } := fun h' sb r => by
      have q := hQ h' sb (by rw [if_neg hm]; exact r)
      rw [decide_eq_false hm] at q
      exact q
    refine wpAny_bind (gw _ ?_)
    split
    · refine wpAny_bind ?_
      rw [hashByValue_scannable 8 rfl]
      refine wpAny_pure (tailS ?_ T.at_ T.ex T.da g1 pk n1 z1 ?_ ?_ ?_ ?_)
      · intro b s1 Q1 q; cases b <;> first | exact wpAny_pure q | exact wpAny_rule q
      · first | (split <;> first | exact q2 | exact SetTable.fits_plain_off q2) | exact q2
      · first | (split <;> exact q3) | exact q3
      · first | (split <;> exact l1) | exact l1
      · intro h' sb r; dsimp only; exact wpAny_pure (fin h' sb r)
    · refine wpAny_bind (wpAny_pure ?_)
      simp only [↓reduceIte]
      refine tailS ?_ T.at_ T.ex T.da g1 pk n1 z1 q2 q3 l1 ?_
      · intro b s1 Q1 q; cases b <;> first | exact wpAny_pure q | exact wpAny_rule q
      · intro h' sb r; dsimp only; exact wpAny_pure (fin h' sb r)
end
end SStr
namespace SStr
open PySem PySem.Spec PyProof.Rows L2
def seen (xs : List Str) : List Str := xs.foldl (fun l x => if x ∈ l then l else x :: l) []
theorem seen_snoc (xs : List Str) (x : Str) : seen (xs ++ [x]) = if x ∈ seen xs then seen xs else x :: seen xs := by
  unfold seen
  rw [List.foldl_append]; rfl
theorem seen_spec (xs : List Str) : (seen xs).Nodup ∧ (∀ x, x ∈ seen xs ↔ x ∈ xs) ∧ (seen xs).length ≤ xs.length := by
  have : ∀ n (xs : List Str), xs.length = n → (seen xs).Nodup ∧ (∀ x, x ∈ seen xs ↔ x ∈ xs) ∧ (seen xs).length ≤ xs.length := by
    intro n
    induction n with
    | zero =>
      intro xs e
      have : xs = [] := List.eq_nil_of_length_eq_zero e
      subst this
      exact ⟨List.nodup_nil, fun x => Iff.rfl, Nat.le_refl _⟩
    | succ n ih =>
      intro xs e
      have hx : xs ≠ [] := fun z => by subst z; cases e
      obtain ⟨ys, y, rfl⟩ : ∃ ys y, xs = ys ++ [y] := ⟨xs.dropLast, xs.getLast hx, (List.dropLast_concat_getLast hx).symm⟩
      obtain ⟨h1, h2, h3⟩ := ih ys (by simpa using e)
      rw [seen_snoc]
      by_cases c : y ∈ seen ys
      · rw [if_pos c]
        refine ⟨h1, fun x => ?_, by simp; omega⟩
        rw [h2, List.mem_append, List.mem_singleton]
        exact ⟨.inl, fun h => h.elim id fun z => by subst z; exact (h2 x).mp c⟩
      · rw [if_neg c]
        refine ⟨List.nodup_cons.mpr ⟨c, h1⟩, fun x => ?_, by simp; omega⟩
        rw [List.mem_cons, h2, List.mem_append, List.mem_singleton]
        exact Or.comm
  exact this _ xs rfl
theorem SetS.keep {w : World} {h h' : Heap} {a : Addr} {ks : List Str} (R : SetS w h a ks) (k : ∀ o, h.get? a = some o → h'.get? a = some o) : SetS w h' a ks := by
  obtain ⟨o, es, ep, t, T⟩ := R
  exact ⟨o, es, ep, t, k o T.at_, T.ex, T.da, T.gs, T.pm, T.nd, T.sz, T.ft, T.rs, T.ld⟩
section
variable {prog : Program} {w : World} {A : Around} {R : Result → Shared → Prop} {I : Addr} {fp wr : List Addr} {G : Array GenState → Array GenState → Prop} {n : Nat} {P : Nat → Value → Prop} {St : Nat → Shared → Prop}
theorem loopS (W : WalksS prog w A.in1 I fp wr G n P St) (S : Addr) (out : S ∉ fp) (xs : List Str) (len : xs.length = n) (room : n + 1 < scanBound) (val : ∀ i v, P i v → ∃ t, v = .str (xs.getD i Str.empty) t) :
    ∀ (k i : Nat) (s : Shared), n - i = k → i ≤ n → St i s → SetS w s.heap S (seen (xs.take i)) →
      (∀ s', Moved (S :: wr) G s s' → SetS w s'.heap S (seen xs) → R (.ok (.ret .none)) s') →
      codeAny (model prog w) A (.builtin "set.update.loop" ⟨[.ref S, .ref I], []⟩) R s := by
  have nw : S ∉ wr := fun h => out (W.sub _ h)
  have up : ∀ b ∈ wr, b ∈ S :: wr := fun b => List.mem_cons_of_mem _
  intro k
  induction k with
  | zero =>
    intro i s hk hi st hS hR
    have e : i = n := by omega
    subst e
    refine codeAny_builtin (PyProof.Rows.F.entry_set_update_loop) ?_
    rw [Around.under_plainId (PyProof.Rows.F.plain_set_update_loop) _]
    show wpAny _ A.in1 (pyNext (.ref I) >>= _) _ _ s
    refine wpAny_bind (W.done s _ _ st fun s1 mv => ?_)
    show wpAny _ A.in1 (ret Value.none) _ _ s1
    refine wpAny_pure (hR s1 (mv.mono up) ?_)
    rw [← len, List.take_length] at hS
    exact hS.keep fun o ho => mv.heap S _ nw ho
  | succ k ih =>
    intro i s hk hi st hS hR
    have lt : i < n := by omega
    refine codeAny_builtin (PyProof.Rows.F.entry_set_update_loop) ?_
    rw [Around.under_plainId (PyProof.Rows.F.plain_set_update_loop) _]
    show wpAny _ A.in1 (pyNext (.ref I) >>= _) _ _ s
    refine wpAny_bind (W.item i s _ _ lt st fun v s1 hP st1 mv => ?_)
    obtain ⟨t, rfl⟩ := val i v hP
    have hS1 : SetS w s1.heap S (seen (xs.take i)) := hS.keep fun o ho => mv.heap S _ nw ho
    have ln := (seen_spec (xs.take i)).2.2
    rw [List.length_take] at ln
    show wpAny _ A.in1 (holding [Value.str (xs.getD i Str.empty) t] (setAdd S (.str (xs.getD i Str.empty) t)) >>= _) _ _ s1
    refine wpAny_bind (wpAny_holding ?_)
    unfold setAdd
    refine wpAny_holding (wpAny_bind ((strKind prog w).pyHash (k := xs.getD i Str.empty) (strKind_is _ _ _ _) ?_))
    refine addS (P := prog) (s := { s1 with toks := s1.toks + 1 }) (ks := seen (xs.take i)) hS1 (by omega) fun h1 sb hS2 => ?_
    have nx : SetS w h1 S (seen (xs.take (i + 1))) := by
      have e : xs.take (i + 1) = xs.take i ++ [xs.getD i Str.empty] := by
        rw [List.take_succ, List.getD_eq_getElem?_getD, List.getElem?_eq_getElem (by omega)]; rfl
      rw [e, seen_snoc]
      exact hS2
    refine wpAny_pure ⟨plainId_quiet (PyProof.Rows.F.plain_set_update_loop) _, ih (i + 1) _ (by omega) lt (W.frame _ s1 _ _ st1 (Nat.le_succ _) fun b hb o e => ?_) nx fun s2 m2 hS3 => ?_⟩
    · rw [sb.2 b (fun h : b = S => out (by rw [← h]; exact hb))]; exact e
    · refine hR s2 (Moved.trans W.gtrans ((mv.mono up).then_heap (Nat.le_succ _) fun b o hb e => ?_) m2) hS3
      rw [sb.2 b (fun h : b = S => hb (by rw [h]; exact List.mem_cons_self))]; exact e
end
end SStr
namespace SStr
open PySem PySem.Spec PyProof.Rows L2
section
variable {prog : Program} {w : World} {A : Around} {E : Value → Shared → Prop} {s : Shared}
abbrev newO (w : World) : Obj := { cls := .type "set", dict := none, data := .set #[] 0 (.fresh 0 0 (!w.params.followText "set-order")) }
theorem newS (x : Value) {Q : Value → Shared → Prop} (q : Q (.ref s.heap.objs.size) { s with heap := s.heap.push (newO w) }) :
    codeAny (model prog w) A (.call (.builtin "set.__new__") ⟨[.type "set", x], []⟩) (wants Q E) s := by
  refine codeAny_of_tree ?_
  show wpAny _ A.in1 (do checkBuiltinCall "set.__new__" ⟨[.type "set", x], []⟩; again (.builtin "set.__new__" ⟨[.type "set", x], []⟩)) _ _ s
  refine wpAny_bind (wpAny_of_eq (F.newCall_set_1 x) (wpAny_pure ⟨plainId_quiet (F.plain_set_new) _, codeAny_builtin (F.entry_set_new) ?_⟩))
  rw [Around.under_plainId (F.plain_set_new) _]
  unfold Builtin.«set.__new__» Builtin.Frozenset.newClass
  have sub0 := sub_set_self
  obtain ⟨hp, gs, dr, tk, os⟩ := s
  dsimp only
  wp_walk
  refine wpAny_askSetting (wpAny_pure ?_)
  dsimp only
  simp only [newObj]
  exact wpAny_bind (wpAny_alloc (wpAny_pure (wpAny_pure q)))
theorem freshS {h : Heap} {a : Addr} (e : h.get? a = some (newO w)) : SetS w h a [] :=
  ⟨newO w, #[], 0, _, e, ⟨rfl, rfl, rfl⟩, rfl, fun p hp => by simp at hp, List.Perm.refl _, List.nodup_nil, by decide, by rfl, List.Pairwise.nil, by
    show _ ∨ (!w.params.followText "set-order") = true
    cases w.params.followText "set-order" <;> simp⟩
theorem callG {l : Addr} {items : Array Value} {F : Addr → Heap → Prop} {Q : Value → Shared → Prop}
    (hh : A.handled = none) (hl : s.heap.IsList l items) (hloop : ∀ (A' : Around) (R : Result → Shared → Prop) (I : Addr) (fp wr : List Addr) (G : Array GenState → Array GenState → Prop) (St : Nat → Shared → Prop) (_ : WalksS prog w A'.in1 I fp wr G items.size (fun i v => items[i]? = some v) St) (S : Addr), S ∉ fp → ∀ s' : Shared, St 0 s' → s'.heap.get? S = some (newO w) →
      (∀ s2, Moved (S :: wr) G s' s2 → F S s2.heap → R (.ok (.ret .none)) s2) → codeAny (model prog w) A' (.builtin "set.update.loop" ⟨[.ref S, .ref I], []⟩) R s')
    (q : ∀ (h' : Heap) (tk : Nat), F s.heap.objs.size h' → (∀ b o, b < s.heap.objs.size → s.heap.get? b = some o → h'.get? b = some o) → Q (.ref s.heap.objs.size) { s with heap := h', toks := tk }) :
    wpAny (model prog w) A (call (.type "set") [.ref l]) Q E s := by
  obtain ⟨c, tl, hmro⟩ := PySem.F.called_set.mro
  have made := PySem.F.called_set.made
  have subc := PySem.F.called_set.sub
  refine wpAny_call (codeAny_of_tree ?_)
  show wpAny _ _ (callAny (.type "set") _) _ _ _
  refine wpAny_pure ⟨Code.quiet_builtin _ (by decide +kernel), codeAny_builtin (PySem.F.entry_type_call) ?_⟩
  rw [Around.under_plain (weight_type_call_type "set" [.ref l] []) rfl]
  have c1 := PySem.F.called_set.notType
  have c2 := PySem.F.called_set.canCreate
  have ct := PySem.F.typeCall_set_1 (.ref l)
  repeat (any_goals (first | assumption | wp_step))
  refine codeAny_mono (newS (.ref l) (E := E) (Q := fun ob s1 => ob = .ref s.heap.objs.size ∧ s1 = { s with heap := s.heap.push (newO w) }) ⟨rfl, rfl⟩) fun r s1 hr => ?_
  cases r with
  | error e => exact hr
  | ok fl =>
    cases fl with
    | ret ob =>
      obtain ⟨rfl, rfl⟩ := hr
      have gS : (s.heap.push (newO w)).get? s.heap.objs.size = some (newO w) := Heap.get?_push_size _ rfl
      have tS : Shared.TypeIs { s with heap := s.heap.push (newO w) } (.ref s.heap.objs.size) "set" := ⟨_, gS, rfl⟩
      have li := PySem.F.called_set.init.lookup
      have bi := PySem.F.called_set.init.bind (.ref s.heap.objs.size)
      repeat (any_goals (first | assumption | wp_step))
      refine codeAny_mono (codeAny_call_builtin (R := wants (fun r s2 => r = .none ∧ ∃ h' tk, s2 = { s with heap := h', toks := tk } ∧ F s.heap.objs.size h' ∧
          (∀ b o, b < s.heap.objs.size → s.heap.get? b = some o → h'.get? b = some o)) E) PySem.F.called_set.init.plain PySem.F.entry_set_init (check_set_init_1 tS ?_)) fun r2 s2 hr2 => ?_
      · obtain ⟨ol, gl, cl, nl, dl⟩ := hl
        obtain ⟨ocls, odict, odata, oslots⟩ := ol
        simp only at cl dl
        subst cl; subst dl
        have gl' : (s.heap.push (newO w)).get? l = some { cls := .type "list", dict := odict, data := .seq items nl, slots := oslots } := Heap.get?_push_of_some _ gl
        have u1 := PySem.F.sub_list_set
        have u2 := PySem.F.sub_list_frozenset
        have u3 : (Value.type "list" == Value.type "dict") = false := by decide
        have il : (s.heap.push (newO w)).IsList l items := ⟨_, gl', rfl, nl, rfl⟩
        unfold Builtin.«set.__init__» noKeywords Builtin.Frozenset.updateFrom
        generalize hPI : pyIter = PI
        wp_walk
        subst hPI
        refine wpAny_pyIter_list il ?_
        refine wpAny_bind (wpAny_runValue ?_)
        have lS : l < s.heap.objs.size := Heap.lt_size gl
        have h3 : A.in1.in1.in1.handled = none := by simp [hh]
        have nI : l ≠ (s.heap.push (newO w)).objs.size := by
          rw [Heap.size_push]; exact Nat.ne_of_lt (Nat.lt_succ_of_lt lS)
        have nS : s.heap.objs.size ∉ [(s.heap.push (newO w)).objs.size, l] := by
          rw [Heap.size_push]; simp only [List.mem_cons, List.not_mem_nil, or_false, not_or]
          exact ⟨Nat.ne_of_lt (Nat.lt_succ_self _), Nat.ne_of_gt lS⟩
        refine hloop _ _ _ _ _ _ _ ((Walks.list h3 _ l nI items).toS) s.heap.objs.size nS _ ⟨⟨_, Heap.get?_push_size _ rfl, rfl, rfl⟩, (il.push _)⟩ ?c1 ?c2
        case c1 =>
          have g0 : ((s.heap.push (newO w)).push { cls := .type "list_iterator", data := .fields #[.ref l, .int 0 0] }).get? s.heap.objs.size = some (newO w) := Heap.get?_push_of_some _ gS
          exact g0
        case c2 =>
          intro s3 mv hS3
          obtain ⟨h', g', d', tk', os'⟩ := s3
          have e1 : g' = s.gens := mv.gens
          have e2 : d' = s.drawn := mv.drawn
          have e3 : os' = s.os := mv.os
          subst e1; subst e2; subst e3
          show wpAny _ _ _ _ _ _
          refine wpAny_pure ?_
          show wpAny _ _ (ret Value.none) _ _ _
          refine wpAny_pure ⟨rfl, h', tk', rfl, hS3, fun b o hb e => ?_⟩
          have b1 : b ≠ s.heap.objs.size := Nat.ne_of_lt hb
          have b2 : b ≠ (s.heap.push (newO w)).objs.size := by
            rw [Heap.size_push]; exact Nat.ne_of_lt (Nat.lt_succ_of_lt hb)
          exact mv.heap b o (by simp only [List.mem_cons, List.not_mem_nil, or_false, not_or]; exact ⟨b1, b2⟩) (Heap.get?_push_of_some _ (Heap.get?_push_of_some _ e))
      · cases r2 with
        | error e => exact hr2
        | ok f2 =>
          cases f2 with
          | ret r =>
            obtain ⟨rfl, h', tk, rfl, hS3, kp⟩ := hr2
            repeat (any_goals (first | assumption | wp_step))
            exact q _ _ hS3 kp
          | _ => exact hr2.elim
    | _ => exact hr.elim
theorem callGT {l : Addr} {items : Array Value} {F : Addr → Heap → Prop} {Q : Value → Shared → Prop}
    (hh : A.handled = none) (hl : s.heap.IsTuple l items) (hloop : ∀ (A' : Around) (R : Result → Shared → Prop) (I : Addr) (fp wr : List Addr) (G : Array GenState → Array GenState → Prop) (St : Nat → Shared → Prop) (_ : WalksS prog w A'.in1 I fp wr G items.size (fun i v => items[i]? = some v) St) (S : Addr), S ∉ fp → ∀ s' : Shared, St 0 s' → s'.heap.get? S = some (newO w) →
      (∀ s2, Moved (S :: wr) G s' s2 → F S s2.heap → R (.ok (.ret .none)) s2) → codeAny (model prog w) A' (.builtin "set.update.loop" ⟨[.ref S, .ref I], []⟩) R s')
    (q : ∀ (h' : Heap) (tk : Nat), F s.heap.objs.size h' → (∀ b o, b < s.heap.objs.size → s.heap.get? b = some o → h'.get? b = some o) → Q (.ref s.heap.objs.size) { s with heap := h', toks := tk }) :
    wpAny (model prog w) A (call (.type "set") [.ref l]) Q E s := by
  obtain ⟨c, tl, hmro⟩ := PySem.F.called_set.mro
  have made := PySem.F.called_set.made
  have subc := PySem.F.called_set.sub
  refine wpAny_call (codeAny_of_tree ?_)
  show wpAny _ _ (callAny (.type "set") _) _ _ _
  refine wpAny_pure ⟨Code.quiet_builtin _ (by decide +kernel), codeAny_builtin (PySem.F.entry_type_call) ?_⟩
  rw [Around.under_plain (weight_type_call_type "set" [.ref l] []) rfl]
  have c1 := PySem.F.called_set.notType
  have c2 := PySem.F.called_set.canCreate
  have ct := PySem.F.typeCall_set_1 (.ref l)
  repeat (any_goals (first | assumption | wp_step))
  refine codeAny_mono (newS (.ref l) (E := E) (Q := fun ob s1 => ob = .ref s.heap.objs.size ∧ s1 = { s with heap := s.heap.push (newO w) }) ⟨rfl, rfl⟩) fun r s1 hr => ?_
  cases r with
  | error e => exact hr
  | ok fl =>
    cases fl with
    | ret ob =>
      obtain ⟨rfl, rfl⟩ := hr
      have gS : (s.heap.push (newO w)).get? s.heap.objs.size = some (newO w) := Heap.get?_push_size _ rfl
      have tS : Shared.TypeIs { s with heap := s.heap.push (newO w) } (.ref s.heap.objs.size) "set" := ⟨_, gS, rfl⟩
      have li := PySem.F.called_set.init.lookup
      have bi := PySem.F.called_set.init.bind (.ref s.heap.objs.size)
      repeat (any_goals (first | assumption | wp_step))
      refine codeAny_mono (codeAny_call_builtin (R := wants (fun r s2 => r = .none ∧ ∃ h' tk, s2 = { s with heap := h', toks := tk } ∧ F s.heap.objs.size h' ∧
          (∀ b o, b < s.heap.objs.size → s.heap.get? b = some o → h'.get? b = some o)) E) PySem.F.called_set.init.plain PySem.F.entry_set_init (check_set_init_1 tS ?_)) fun r2 s2 hr2 => ?_
      · obtain ⟨ol, gl, cl, nl, dl⟩ := hl
        obtain ⟨ocls, odict, odata, oslots⟩ := ol
        simp only at cl dl
        subst cl; subst dl
        have gl' : (s.heap.push (newO w)).get? l = some { cls := .type "tuple", dict := odict, data := .seq items nl, slots := oslots } := Heap.get?_push_of_some _ gl
        have u1 := PySem.F.sub_tuple_set
        have u2 := PySem.F.sub_tuple_frozenset
        have u3 : (Value.type "tuple" == Value.type "dict") = false := by decide
        have il : (s.heap.push (newO w)).IsTuple l items := ⟨_, gl', rfl, nl, rfl⟩
        unfold Builtin.«set.__init__» noKeywords Builtin.Frozenset.updateFrom
        generalize hPI : pyIter = PI
        wp_walk
        subst hPI
        refine wpAny_pyIter_tuple il ?_
        refine wpAny_bind (wpAny_runValue ?_)
        have lS : l < s.heap.objs.size := Heap.lt_size gl
        have h3 : A.in1.in1.in1.handled = none := by simp [hh]
        have nI : l ≠ (s.heap.push (newO w)).objs.size := by
          rw [Heap.size_push]; exact Nat.ne_of_lt (Nat.lt_succ_of_lt lS)
        have nS : s.heap.objs.size ∉ [(s.heap.push (newO w)).objs.size, l] := by
          rw [Heap.size_push]; simp only [List.mem_cons, List.not_mem_nil, or_false, not_or]
          exact ⟨Nat.ne_of_lt (Nat.lt_succ_self _), Nat.ne_of_gt lS⟩
        refine hloop _ _ _ _ _ _ _ ((Walks.tuple h3 _ l nI items).toS) s.heap.objs.size nS _ ⟨⟨_, Heap.get?_push_size _ rfl, rfl, rfl⟩, (il.push _)⟩ ?c1 ?c2
        case c1 =>
          have g0 : ((s.heap.push (newO w)).push { cls := .type "tuple_iterator", data := .fields #[.ref l, .int 0 0] }).get? s.heap.objs.size = some (newO w) := Heap.get?_push_of_some _ gS
          exact g0
        case c2 =>
          intro s3 mv hS3
          obtain ⟨h', g', d', tk', os'⟩ := s3
          have e1 : g' = s.gens := mv.gens
          have e2 : d' = s.drawn := mv.drawn
          have e3 : os' = s.os := mv.os
          subst e1; subst e2; subst e3
          show wpAny _ _ _ _ _ _
          refine wpAny_pure ?_
          show wpAny _ _ (ret Value.none) _ _ _
          refine wpAny_pure ⟨rfl, h', tk', rfl, hS3, fun b o hb e => ?_⟩
          have b1 : b ≠ s.heap.objs.size := Nat.ne_of_lt hb
          have b2 : b ≠ (s.heap.push (newO w)).objs.size := by
            rw [Heap.size_push]; exact Nat.ne_of_lt (Nat.lt_succ_of_lt hb)
          exact mv.heap b o (by simp only [List.mem_cons, List.not_mem_nil, or_false, not_or]; exact ⟨b1, b2⟩) (Heap.get?_push_of_some _ (Heap.get?_push_of_some _ e))
      · cases r2 with
        | error e => exact hr2
        | ok f2 =>
          cases f2 with
          | ret r =>
            obtain ⟨rfl, h', tk, rfl, hS3, kp⟩ := hr2
            repeat (any_goals (first | assumption | wp_step))
            exact q _ _ hS3 kp
          | _ => exact hr2.elim
    | _ => exact hr.elim
theorem callS {l : Addr} {items : Array Value} {xs : List Str} {Q : Value → Shared → Prop}
    (hh : A.handled = none) (hl : s.heap.IsList l items) (hi : StrsAre items.toList xs) (room : xs.length + 1 < scanBound)
    (q : ∀ (h' : Heap) (tk : Nat), SetS w h' s.heap.objs.size (seen xs) → (∀ b o, b < s.heap.objs.size → s.heap.get? b = some o → h'.get? b = some o) → Q (.ref s.heap.objs.size) { s with heap := h', toks := tk }) :
    wpAny (model prog w) A (call (.type "set") [.ref l]) Q E s := by
  have sz : xs.length = items.size := by rw [← StrsAre.len_eq hi, Array.length_toList]
  have vl : ∀ (i : Nat) (v : Value), items[i]? = some v → ∃ t, v = .str (xs.getD i Str.empty) t := fun i v hv => SS.strs_at hi i v (by rw [Array.getElem?_toList]; exact hv)
  exact callG (F := fun S h => SetS w h S (seen xs)) hh hl (fun A' R I fp wr G St W S nS s' st g c => loopS W S nS xs sz (by rw [← sz]; exact room) vl (items.size - 0) 0 s' (by omega) (Nat.zero_le _) st (freshS g) c) q
theorem callT {l : Addr} {items : Array Value} {xs : List Str} {Q : Value → Shared → Prop}
    (hh : A.handled = none) (hl : s.heap.IsTuple l items) (hi : StrsAre items.toList xs) (room : xs.length + 1 < scanBound)
    (q : ∀ (h' : Heap) (tk : Nat), SetS w h' s.heap.objs.size (seen xs) → (∀ b o, b < s.heap.objs.size → s.heap.get? b = some o → h'.get? b = some o) → Q (.ref s.heap.objs.size) { s with heap := h', toks := tk }) :
    wpAny (model prog w) A (call (.type "set") [.ref l]) Q E s := by
  have sz : xs.length = items.size := by rw [← StrsAre.len_eq hi, Array.length_toList]
  have vl : ∀ (i : Nat) (v : Value), items[i]? = some v → ∃ t, v = .str (xs.getD i Str.empty) t := fun i v hv => SS.strs_at hi i v (by rw [Array.getElem?_toList]; exact hv)
  exact callGT (F := fun S h => SetS w h S (seen xs)) hh hl (fun A' R I fp wr G St W S nS s' st g c => loopS W S nS xs sz (by rw [← sz]; exact room) vl (items.size - 0) 0 s' (by omega) (Nat.zero_le _) st (freshS g) c) q
end
end SStr
namespace PLq
open PySem L2
open PySem.W (EachIs AllAlike Sortable dataLt keyToks dataKind sortVals SortsAt alike)
def GathI (X : Cx) (pins : List (Addr × Obj)) (σ : L2.St) (H : Hp) (s : Shared) (u : Value) (Ps : List (V × PyData) → Prop) : Prop :=
  ∀ (R : List Value → Shared → Prop) (E : Value → Shared → Prop), (∀ (s1 : Shared) (acc : List Value) (ps : List (V × PyData)), Inv X pins σ H s1 → EachIs (fun v p => RelV p.1 v) acc ps → Ps ps → R acc s1) →
    wpAny (model X.prog X.w) X.A.in1 (collect u) R E s
theorem srt_callI {X : Cx} {pins : List (Addr × Obj)} {σ : L2.St} {H : Hp} {s : Shared} {u : Value} {Q : VK} (hu : X.A.units + 65 < cLine) (I : Inv X pins σ H s) {Ps : List (V × PyData) → Prop} (g : GathI X pins σ H s u Ps) (hd0 : ∀ ps, Ps ps → ∀ p ∈ ps, Dp X.KK H p.1 p.2)
    (ha0 : ∀ ps, Ps ps → AllAlike (ps.map (·.2))) (hk0 : ∀ ps, Ps ps → Sortable (ps.map (·.2))) (hp0 : ∀ ps, Ps ps → ∀ p ∈ ps, p.2.depth ≤ 50) (hz0 : ∀ ps, Ps ps → ps.length ≤ sizeLine) (q0 : ∀ ps, Ps ps → ∀ r, H r = none → Q (.ref r) (upd H r (.lst ((ps.mergeSort leP).map (·.1))))) :
    wpAny (model X.prog X.w) X.A (call (.builtin "sorted") [u]) (EP X pins σ Q) X.xe s := by
  refine Calls.call_function_entry PyProof.Rows.kind_sorted PyProof.Rows.plain_sorted PyProof.Rows.entry_sorted (PyProof.Rows.args_sorted1 _) ?_
  unfold Builtin.«sorted»
  refine wpAny_bind (m := checkCount "sorted" 1 1 _) (wpAny_pure ?_)
  refine wpAny_bind (g _ _ fun s1 acc ps I1 k2 pp => ?_)
  have hd := hd0 ps pp
  have ha := ha0 ps pp
  have hk := hk0 ps pp
  have hp := hp0 ps pp
  have hz := hz0 ps pp
  have q := q0 ps pp
  have hl := k2.length
  refine wpAny_bind (PySem.wpAny_newList ?_ (by rw [hl]; exact hz))
  have hoL : (s1.heap.push (PyProof.Rows.seqObj "list" acc.toArray 0)).get? s1.heap.objs.size = some (PyProof.Rows.seqObj "list" acc.toArray 0) := Heap.get?_push_size _ rfl
  show wpAny _ _ _ _ _ { s1 with heap := s1.heap.push (PyProof.Rows.seqObj "list" acc.toArray 0), toks := s1.toks }
  have old : ∀ b o, s1.heap.get? b = some o → (PySem.W.sortingHeap (s1.heap.push (PyProof.Rows.seqObj "list" acc.toArray 0)) s1.heap.objs.size acc).get? b = some o := fun b o e =>
    PySem.W.sortingHeap_old (Nat.ne_of_lt (Heap.lt_size e)) (Heap.get?_push_of_some _ e)
  have I2 : Inv X pins σ H { s1 with heap := PySem.W.sortingHeap (s1.heap.push (PyProof.Rows.seqObj "list" acc.toArray 0)) s1.heap.objs.size acc, toks := s1.toks } := I1.kept (t' := s1.toks) old
  have rd : EachIs (fun v d => ∃ as, Reads (PySem.W.sortingHeap (s1.heap.push (PyProof.Rows.seqObj "list" acc.toArray 0)) s1.heap.objs.size acc) v d as) acc (ps.map (·.2)) := by
    have : ∀ {us : List Value} {qs : List (V × PyData)}, EachIs (fun v p => RelV p.1 v) us qs → (∀ p ∈ qs, Dp X.KK H p.1 p.2) →
        EachIs (fun v d => ∃ as, Reads (PySem.W.sortingHeap (s1.heap.push (PyProof.Rows.seqObj "list" acc.toArray 0)) s1.heap.objs.size acc) v d as) us (qs.map (·.2)) := by
      intro us qs e
      induction e with
      | nil => exact fun _ => .nil
      | cons r _ ih => exact fun z => .cons (Dp.reads I2 _ _ _ (z _ List.mem_cons_self) r) (ih fun p h => z p (List.mem_cons_of_mem _ h))
    exact this k2 hd
  have S : ∀ A : Around, A.units ≤ X.A.units + 10 → SortsAt X.prog X.w A { s1 with heap := PySem.W.sortingHeap (s1.heap.push (PyProof.Rows.seqObj "list" acc.toArray 0)) s1.heap.objs.size acc, toks := s1.toks } (dataKind (PySem.W.sortingHeap (s1.heap.push (PyProof.Rows.seqObj "list" acc.toArray 0)) s1.heap.objs.size acc) (ps.map (·.2))) acc := fun A hA =>
    SortsAt.data (s := { s1 with heap := PySem.W.sortingHeap (s1.heap.push (PyProof.Rows.seqObj "list" acc.toArray 0)) s1.heap.objs.size acc, toks := s1.toks }) rd ha hk fun d hd => by
      obtain ⟨p, hp', rfl⟩ := List.mem_map.mp hd
      have := hp p hp'
      omega
  have hl2 : acc.length ≤ sizeLine := by rw [hl]; exact hz
  refine wpAny_bind (wpAny_holding (wpAny_call_entry PyProof.Rows.slot_list_sort ⟨_, hoL, rfl⟩ PyProof.Rows.entry_list_sort
    (PySem.W.list_sort_vals (s := { s1 with heap := s1.heap.push (PyProof.Rows.seqObj "list" acc.toArray 0), toks := s1.toks }) hoL (S _ (by show X.A.units + 1 + 1 ≤ _; omega)) hl2 ⟨_, rfl, ?_⟩) (PyProof.Rows.args_list_sort _)))
  have out : EachIs (fun v p => RelV p.1 v) (sortVals (dataKind (PySem.W.sortingHeap (s1.heap.push (PyProof.Rows.seqObj "list" acc.toArray 0)) s1.heap.objs.size acc) (ps.map (·.2))) false acc acc) (ps.mergeSort leP) := by
    refine PySem.W.sortVals_each (κ := dataKind (PySem.W.sortingHeap (s1.heap.push (PyProof.Rows.seqObj "list" acc.toArray 0)) s1.heap.objs.size acc) (ps.map (·.2))) (fun p : V × PyData => keyToks p.2) k2 ?_
    have : ∀ {us : List Value} {qs : List (V × PyData)}, EachIs (fun v d => ∃ as, Reads (PySem.W.sortingHeap (s1.heap.push (PyProof.Rows.seqObj "list" acc.toArray 0)) s1.heap.objs.size acc) v d as) us (qs.map (·.2)) → (∀ p ∈ qs, p ∈ ps) →
        EachIs (fun v (p : V × PyData) => (dataKind (PySem.W.sortingHeap (s1.heap.push (PyProof.Rows.seqObj "list" acc.toArray 0)) s1.heap.objs.size acc) (ps.map (·.2))).keyOf v = some (keyToks p.2)) us qs := by
      intro us qs
      induction qs generalizing us with
      | nil => intro e _; cases e; exact .nil
      | cons p qs ih =>
        intro e z
        cases e with
        | cons r t =>
          obtain ⟨as, r⟩ := r
          exact .cons (PySem.W.dataKind_some ha (List.mem_map.mpr ⟨p, z p List.mem_cons_self, rfl⟩) r) (ih t fun p' h => z p' (List.mem_cons_of_mem _ h))
    exact this rd fun _ h => h
  obtain ⟨e', he'⟩ := PyProof.Rows.sortedHeap_at (vs := acc) (out := (sortVals (dataKind (PySem.W.sortingHeap (s1.heap.push (PyProof.Rows.seqObj "list" acc.toArray 0)) s1.heap.objs.size acc) (ps.map (·.2))) false acc acc).toArray) hoL
  have vals : ∀ {us : List Value} {qs : List (V × PyData)}, EachIs (fun v p => RelV p.1 v) us qs → Vals (qs.map (·.1)) us := by
    intro us qs e
    induction e with
    | nil => exact .nil
    | cons r _ ih => exact .cons r ih
  refine wpAny_pure ⟨_, rfl, .ref s1.heap.objs.size, upd H s1.heap.objs.size (.lst ((ps.mergeSort leP).map (·.1))), I1.laid (t' := s1.toks) (fun b v e => ?_) (Nat.le_refl _)
    ⟨by rw [List.length_map, (List.mergeSort_perm _ _).length_eq]; exact hz, _, e', vals out, he'⟩, rfl, q _ (I1.hok.fresh (Nat.le_refl _))⟩
  have hb : b < s1.heap.objs.size := Heap.lt_size e
  rw [PyProof.Rows.sortedHeap_old (Nat.ne_of_lt hb) (by rw [PyProof.Rows.size_push']; exact Nat.lt_succ_of_lt hb)]
  exact Heap.get?_push_of_some _ e
theorem gathI_set {X : Cx} {pins : List (Addr × Obj)} {σ : L2.St} {H : Hp} {s : Shared} {a : Addr} {ks : List Str} (hc : X.calm = true) (I : Inv X pins σ H s) (R : SStr.SetS X.w s.heap a ks) :
    GathI X pins σ H s (.ref a) fun ps => ∃ ys : List Str, ys.Perm ks ∧ ps = ys.map fun y => (V.str y, PyData.str y) := by
  intro Q E hQ
  obtain ⟨o, es, ep, t, T⟩ := R
  refine collect_set (A := X.A.in1) (I.ok.hd hc) ⟨o, T.at_, T.ex.1, T.da⟩ T.ft T.sz T.rs T.ld fun s1 out k1 hz g1 o1 pm => ?_
  have I1 : Inv X pins σ H s1 := I.call' (ch := []) o1 (Un.kept k1) (I.hok.kept k1) (by rw [g1]; exact I.bare) (fun _ z => nomatch z)
  have e : ∀ l : List Value, (∀ v ∈ l, ∃ y t, v = Value.str y t) → EachIs (fun v (p : V × PyData) => RelV p.1 v) l ((l.map SStr.kS).map fun y => (V.str y, PyData.str y)) := by
    intro l
    induction l with
    | nil => intro _; exact .nil
    | cons v l ih =>
      intro h
      obtain ⟨y, t, rfl⟩ := h v List.mem_cons_self
      exact .cons ⟨t, rfl⟩ (ih fun w hw => h w (List.mem_cons_of_mem _ hw))
  refine hQ s1 out _ I1 (e out fun v hv => ?_) ⟨out.map SStr.kS, ?_, rfl⟩
  · obtain ⟨p, hp, rfl⟩ := List.mem_map.mp (pm.mem_iff.mp hv)
    obtain ⟨x, t, e1, _⟩ := T.gs p hp
    exact ⟨x, t, e1⟩
  · refine (pm.map SStr.kS).trans ?_
    rw [List.map_map]
    exact T.pm
end PLq
namespace PLq
open PySem L2
open PySem.W (EachIs AllAlike Sortable dataLt keyToks dataKind sortVals SortsAt alike)
abbrev pS (y : Str) : V × PyData := (V.str y, PyData.str y)
theorem leP_str (x y : Str) : leP (pS x) (pS y) = !decide (y.cps.toList < x.cps.toList) := by
  show (!dataLt (.str y) (.str x)) = _
  rw [PySem.W.dataLt_str]
theorem cps_inj {x y : Str} (h : x.cps.toList = y.cps.toList) : x = y := by
  obtain ⟨a⟩ := x
  obtain ⟨b⟩ := y
  have : a = b := Array.toList_inj.mp h
  rw [this]
theorem srt_uniq : ∀ {a b : List Str}, a.Pairwise (fun x y => leP (pS x) (pS y) = true) → b.Pairwise (fun x y => leP (pS x) (pS y) = true) → a.Perm b → a = b
  | [], b, _, _, p => by rw [List.nil_perm.mp p]
  | x :: a, [], _, _, p => absurd (List.perm_nil.mp p) (by simp)
  | x :: a, y :: b, ha, hb, p => by
    have a1 := List.pairwise_cons.mp ha
    have b1 := List.pairwise_cons.mp hb
    have e : x = y := by
      rcases List.mem_cons.mp (p.mem_iff.mp List.mem_cons_self) with e | hx
      · exact e
      · rcases List.mem_cons.mp (p.mem_iff.mpr List.mem_cons_self) with e | hy
        · exact e.symm
        · have h1 := b1.1 x hx
          have h2 := a1.1 y hy
          rw [leP_str, Bool.not_eq_true', decide_eq_false_iff_not] at h1 h2
          exact cps_inj (List.le_antisymm (List.not_lt.mp h2) (List.not_lt.mp h1))
    subst e
    rw [srt_uniq a1.2 b1.2 (List.perm_cons x |>.mp p)]
def sS (xs : List Str) : List Str := xs.mergeSort fun x y => leP (pS x) (pS y)
theorem sS_sorted (xs : List Str) : (sS xs).Pairwise (fun x y => leP (pS x) (pS y) = true) := List.pairwise_mergeSort (fun a b c h1 h2 => by
  rw [leP_str, Bool.not_eq_true', decide_eq_false_iff_not] at h1 h2 ⊢
  have h1 := List.not_lt.mp h1
  have h2 := List.not_lt.mp h2
  exact List.not_lt.mpr (List.le_trans h1 h2)) (fun a b => by
  rw [leP_str, leP_str, Bool.or_eq_true, Bool.not_eq_true', Bool.not_eq_true', decide_eq_false_iff_not, decide_eq_false_iff_not]
  rcases List.le_total a.cps.toList b.cps.toList with h | h
  · exact .inl (List.not_lt.mpr h)
  · exact .inr (List.not_lt.mpr h)) xs
theorem sS_perm {xs ys : List Str} (p : ys.Perm xs) : ((ys.map pS).mergeSort leP).map (·.1) = (sS xs).map V.str := by
  have e : (ys.map pS).mergeSort leP = (sS ys).map pS := (List.map_mergeSort (f := pS) (r := fun x y => leP (pS x) (pS y)) (s := leP) fun a _ b _ => rfl).symm
  rw [e, List.map_map, srt_uniq (sS_sorted ys) (sS_sorted xs) ((List.mergeSort_perm _ _).trans (p.trans (List.mergeSort_perm _ _).symm))]
  rfl
end PLq
namespace SStr
open PySem PySem.Spec PyProof.Rows L2
section
variable {prog : Program} {w : World} {A : Around} {E : Value → Shared → Prop} {s : Shared}
def SetI (w : World) (h : Heap) (a : Addr) (ns : List Int) : Prop := ∃ n, SetR w h a (fun j => decide (j ∈ ns)) n ∧ n ≤ ns.length
theorem SetI.keep {h h' : Heap} {a : Addr} {ns : List Int} (R : SetI w h a ns) (k : ∀ o, h.get? a = some o → h'.get? a = some o) : SetI w h' a ns := by
  obtain ⟨n, r, l⟩ := R
  exact ⟨n, r.at k, l⟩
theorem freshI {h : Heap} {a : Addr} (e : h.get? a = some (newO w)) : SetI w h a [] :=
  ⟨0, ⟨newO w, #[], 0, _, e, ⟨rfl, rfl, rfl⟩, rfl, fun e he => by simp at he, List.nodup_nil, fun k => by simp, by decide, by rfl, rfl, List.Pairwise.nil, by
    show _ ∨ (!w.params.followText "set-order") = true
    cases w.params.followText "set-order" <;> simp⟩, Nat.le_refl _⟩
end
section
variable {prog : Program} {w : World} {A : Around} {R : Result → Shared → Prop} {I : Addr} {fp wr : List Addr} {G : Array GenState → Array GenState → Prop} {n : Nat} {P : Nat → Value → Prop} {St : Nat → Shared → Prop}
theorem loopI (W : WalksS prog w A.in1 I fp wr G n P St) (S : Addr) (out : S ∉ fp) (xs : List Int) (len : xs.length = n) (room : n + 1 < scanBound) (val : ∀ i v, P i v → ∃ t, v = .int (xs.getD i 0) t) :
    ∀ (k i : Nat) (s : Shared), n - i = k → i ≤ n → St i s → SetI w s.heap S (xs.take i) →
      (∀ s', Moved (S :: wr) G s s' → SetI w s'.heap S xs → R (.ok (.ret .none)) s') →
      codeAny (model prog w) A (.builtin "set.update.loop" ⟨[.ref S, .ref I], []⟩) R s := by
  have nw : S ∉ wr := fun h => out (W.sub _ h)
  have up : ∀ b ∈ wr, b ∈ S :: wr := fun b => List.mem_cons_of_mem _
  intro k
  induction k with
  | zero =>
    intro i s hk hi st hS hR
    have e : i = n := by omega
    subst e
    refine codeAny_builtin (PyProof.Rows.F.entry_set_update_loop) ?_
    rw [Around.under_plainId (PyProof.Rows.F.plain_set_update_loop) _]
    show wpAny _ A.in1 (pyNext (.ref I) >>= _) _ _ s
    refine wpAny_bind (W.done s _ _ st fun s1 mv => ?_)
    show wpAny _ A.in1 (ret Value.none) _ _ s1
    refine wpAny_pure (hR s1 (mv.mono up) ?_)
    rw [← len, List.take_length] at hS
    exact hS.keep fun o ho => mv.heap S _ nw ho
  | succ k ih =>
    intro i s hk hi st hS hR
    have lt : i < n := by omega
    refine codeAny_builtin (PyProof.Rows.F.entry_set_update_loop) ?_
    rw [Around.under_plainId (PyProof.Rows.F.plain_set_update_loop) _]
    show wpAny _ A.in1 (pyNext (.ref I) >>= _) _ _ s
    refine wpAny_bind (W.item i s _ _ lt st fun v s1 hP st1 mv => ?_)
    obtain ⟨t, rfl⟩ := val i v hP
    have hS1 : SetI w s1.heap S (xs.take i) := hS.keep fun o ho => mv.heap S _ nw ho
    obtain ⟨c, hR1, ln⟩ := hS1
    rw [List.length_take] at ln
    show wpAny _ A.in1 (holding [Value.int (xs.getD i 0) t] (setAdd S (.int (xs.getD i 0) t)) >>= _) _ _ s1
    refine wpAny_bind (wpAny_holding ?_)
    unfold setAdd
    refine wpAny_holding (wpAny_bind ((intKind prog w).pyHash (k := xs.getD i 0) (intKind_is _ _ _ _) ?_))
    refine setR_add_hashed (P := prog) (s := { s1 with toks := s1.toks + 1 }) hR1 (by omega) fun h1 sb hS2 => ?_
    have nx : SetI w h1 S (xs.take (i + 1)) := by
      have e : xs.take (i + 1) = xs.take i ++ [xs.getD i 0] := by
        rw [List.take_succ, List.getD_eq_getElem?_getD, List.getElem?_eq_getElem (by omega)]; rfl
      refine ⟨_, hS2.congr fun k => ?_, ?_⟩
      · rw [e]
        by_cases h1 : k ∈ xs.take i <;> by_cases h2 : k = xs.getD i 0 <;> simp [h1, h2]
      · rw [List.length_take]; split <;> omega
    refine wpAny_pure ⟨plainId_quiet (PyProof.Rows.F.plain_set_update_loop) _, ih (i + 1) _ (by omega) lt (W.frame _ s1 _ _ st1 (Nat.le_succ _) fun b hb o e => ?_) nx fun s2 m2 hS3 => ?_⟩
    · rw [sb.2 b (fun h : b = S => out (by rw [← h]; exact hb))]; exact e
    · refine hR s2 (Moved.trans W.gtrans ((mv.mono up).then_heap (Nat.le_succ _) fun b o hb e => ?_) m2) hS3
      rw [sb.2 b (fun h : b = S => hb (by rw [h]; exact List.mem_cons_self))]; exact e
end
section
variable {prog : Program} {w : World} {A : Around} {E : Value → Shared → Prop} {s : Shared}
theorem callI {l : Addr} {items : Array Value} {xs : List Int} {Q : Value → Shared → Prop}
    (hh : A.handled = none) (hl : s.heap.IsList l items) (hi : IntsAre items.toList xs) (room : xs.length + 1 < scanBound)
    (q : ∀ (h' : Heap) (tk : Nat), SetI w h' s.heap.objs.size xs → (∀ b o, b < s.heap.objs.size → s.heap.get? b = some o → h'.get? b = some o) → Q (.ref s.heap.objs.size) { s with heap := h', toks := tk }) :
    wpAny (model prog w) A (call (.type "set") [.ref l]) Q E s := by
  have sz : xs.length = items.size := by rw [← Array.length_toList, IntsAre.length hi]
  have vl : ∀ (i : Nat) (v : Value), items[i]? = some v → ∃ t, v = .int (xs.getD i 0) t := fun i v hv => IntsAre.int_at hi i v (by rw [Array.getElem?_toList]; exact hv)
  exact callG (F := fun S h => SetI w h S xs) hh hl (fun A' R I fp wr G St W S nS s' st g c => loopI W S nS xs sz (by rw [← sz]; exact room) vl (items.size - 0) 0 s' (by omega) (Nat.zero_le _) st (freshI g) c) q
end
end SStr
namespace PLq
open PySem L2
open PySem.W (EachIs AllAlike Sortable dataLt keyToks dataKind sortVals SortsAt alike)
def SetSO (w : World) (a : Addr) (ks : List Str) : HO := .ext fun h => SStr.SetS w h a ks
theorem setSO_new {P : Program} {w : World} {H : Hp} {h : Heap} {a : Addr} {ks : List Str} (R : SStr.SetS w h a ks) : ObjOk P w H h a (SetSO w a ks) := by
  have ⟨o, _, _, _, T⟩ := R
  exact ⟨R, ⟨o, T.at_⟩, fun _ _ p k => SStr.SetS.keep p k⟩
theorem setSO_get {X : Cx} {pins : List (Addr × Obj)} {σ : L2.St} {H : Hp} {s : Shared} {a : Addr} {ks : List Str} (I : Inv X pins σ H s) (e : H a = some (SetSO X.w a ks)) : SStr.SetS X.w s.heap a ks := (I.hok a _ e).1
def rSetS (K : KK) (w : World) : List V → Hp → VK → Prop := fun vs H Q => ∃ (l : Addr) (ys : List Str), vs = [V.ref l] ∧ SqL K H l (ys.map V.str) ∧ ys.length + 1 < scanBound ∧ ∀ p, H p = none → Q (.ref p) (upd H p (SetSO w p (SStr.seen ys)))
theorem cr_setS {X : Cx} (hc : X.calm = true) : CallR X (.type "set") (rSetS X.KK X.w) := by
  intro pins s σ H vs us Q I r h
  obtain ⟨l, ys, rfl, hq, room, q⟩ := h
  obtain ⟨its, rv, pl, hz⟩ := I.list hq
  rw [Vals.ref1 r]
  refine SStr.callS (I.ok.hd hc) pl.isList (by simpa using strsAre_of rv) room fun h' tk R k => ?_
  exact ⟨.ref _, upd H s.heap.objs.size (SetSO X.w s.heap.objs.size (SStr.seen ys)), I.laid (t' := tk) (fun b u e => k b u (Heap.lt_size e) e) (Nat.le_refl _) (setSO_new R), rfl, q _ (I.hok.fresh (Nat.le_refl _))⟩
def rSrtS (w : World) : List V → Hp → VK → Prop := fun vs H Q => ∃ (a : Addr) (ks : List Str), vs = [V.ref a] ∧ H a = some (SetSO w a ks) ∧ ks.length ≤ sizeLine ∧ ∀ p, H p = none → Q (.ref p) (upd H p (.lst ((sS ks).map V.str)))
theorem cr_srtS {X : Cx} (hu : X.A.units + 65 < cLine) (hc : X.calm = true) : CallR X (.builtin "sorted") (rSrtS X.w) := by
  intro pins s σ H vs us Q I r h
  obtain ⟨a, ks, rfl, ha, hz, q⟩ := h
  rw [Vals.ref1 r]
  have dat : ∀ {ps : List (V × PyData)}, (∃ ys : List Str, ys.Perm ks ∧ ps = ys.map fun y => (V.str y, PyData.str y)) → ∀ d ∈ ps.map (·.2), ∃ y, d = PyData.str y := by
    rintro ps ⟨ys, _, rfl⟩ d hd
    rw [List.map_map] at hd
    obtain ⟨y, _, rfl⟩ := List.mem_map.mp hd
    exact ⟨y, rfl⟩
  refine srt_callI hu I (gathI_set hc I (setSO_get I ha)) ?_ ?_ ?_ ?_ ?_ ?_
  · rintro ps ⟨ys, _, rfl⟩ p hp
    obtain ⟨y, _, rfl⟩ := List.mem_map.mp hp
    exact .str y
  · intro ps h d hd d' hd'
    obtain ⟨y, rfl⟩ := dat h d hd
    obtain ⟨z, rfl⟩ := dat h d' hd'
    rfl
  · intro ps h
    refine .inr fun d hd => ?_
    obtain ⟨y, rfl⟩ := dat h d hd
    exact ⟨fun e => (nomatch e), fun xs e => (nomatch e)⟩
  · rintro ps ⟨ys, _, rfl⟩ p hp
    obtain ⟨y, _, rfl⟩ := List.mem_map.mp hp
    show 0 ≤ 50
    decide
  · rintro ps ⟨ys, pm, rfl⟩
    rw [List.length_map, pm.length_eq]; exact hz
  · rintro ps ⟨ys, pm, rfl⟩ p hp
    have e := sS_perm pm
    show Q (.ref p) (upd H p (.lst (((ys.map pS).mergeSort leP).map (·.1))))
    rw [e]
    exact q p hp
def rSetT (K : KK) (w : World) : List V → Hp → VK → Prop := fun vs H Q => ∃ (l : Addr) (ys : List Str), vs = [V.ref l] ∧ SqT K H l (ys.map V.str) ∧ ys.length + 1 < scanBound ∧ ∀ p, H p = none → Q (.ref p) (upd H p (SetSO w p (SStr.seen ys)))
theorem cr_setT {X : Cx} (hc : X.calm = true) : CallR X (.type "set") (rSetT X.KK X.w) := by
  intro pins s σ H vs us Q I r h
  obtain ⟨l, ys, rfl, hq, room, q⟩ := h
  obtain ⟨its, rv, ⟨o, ho, hoc, n, hd⟩, hz⟩ := I.tuple hq
  rw [Vals.ref1 r]
  refine SStr.callT (I.ok.hd hc) (items := its.toArray) ⟨o, ho, hoc, n, hd⟩ (by simpa using strsAre_of rv) room fun h' tk R k => ?_
  exact ⟨.ref _, upd H s.heap.objs.size (SetSO X.w s.heap.objs.size (SStr.seen ys)), I.laid (t' := tk) (fun b u e => k b u (Heap.lt_size e) e) (Nat.le_refl _) (setSO_new R), rfl, q _ (I.hok.fresh (Nat.le_refl _))⟩
def SetIO (w : World) (a : Addr) (ns : List Int) : HO := .ext fun h => SStr.SetI w h a ns
theorem setIO_new {P : Program} {w : World} {H : Hp} {h : Heap} {a : Addr} {ns : List Int} (R : SStr.SetI w h a ns) : ObjOk P w H h a (SetIO w a ns) := by
  have ⟨n, ⟨o, es, ep, t, ho, _⟩, _⟩ := R
  exact ⟨R, ⟨o, ho⟩, fun _ _ p k => SStr.SetI.keep p k⟩
def rSetI (K : KK) (w : World) : List V → Hp → VK → Prop := fun vs H Q => ∃ (l : Addr) (ns : List Int), vs = [V.ref l] ∧ SqL K H l (ns.map V.int) ∧ ns.length + 1 < scanBound ∧ ∀ p, H p = none → Q (.ref p) (upd H p (SetIO w p ns))
theorem cr_setI {X : Cx} (hc : X.calm = true) : CallR X (.type "set") (rSetI X.KK X.w) := by
  intro pins s σ H vs us Q I r h
  obtain ⟨l, ns, rfl, hq, room, q⟩ := h
  obtain ⟨its, rv, pl, hz⟩ := I.list hq
  rw [Vals.ref1 r]
  refine SStr.callI (I.ok.hd hc) pl.isList (by simpa using intsAre_of rv) room fun h' tk R k => ?_
  exact ⟨.ref _, upd H s.heap.objs.size (SetIO X.w s.heap.objs.size ns), I.laid (t' := tk) (fun b u e => k b u (Heap.lt_size e) e) (Nat.le_refl _) (setIO_new R), rfl, q _ (I.hok.fresh (Nat.le_refl _))⟩
def insI (x : Int) : List Int → List Int
  | [] => [x]
  | y :: l => if x < y then x :: y :: l else if x = y then y :: l else y :: insI x l
def sortI (ns : List Int) : List Int := ns.foldr insI []
theorem insI_mem (x k : Int) : ∀ l : List Int, k ∈ insI x l ↔ k = x ∨ k ∈ l
  | [] => by simp [insI]
  | y :: l => by
    unfold insI
    split
    · simp
    · split
      · rename_i _ e
        subst e
        simp
      · rw [List.mem_cons, insI_mem x k l, List.mem_cons]
        constructor
        · rintro (h | h | h)
          · exact .inr (.inl h)
          · exact .inl h
          · exact .inr (.inr h)
        · rintro (h | h | h)
          · exact .inr (.inl h)
          · exact .inl h
          · exact .inr (.inr h)
theorem insI_lt (x : Int) : ∀ {l : List Int}, l.Pairwise (· < ·) → (insI x l).Pairwise (· < ·)
  | [], _ => by simp [insI]
  | y :: l, h => by
    obtain ⟨h1, h2⟩ := List.pairwise_cons.mp h
    unfold insI
    split
    · rename_i hxy
      refine List.pairwise_cons.mpr ⟨fun z hz => ?_, h⟩
      rcases List.mem_cons.mp hz with rfl | hz
      · exact hxy
      · have := h1 z hz; omega
    · split
      · exact h
      · refine List.pairwise_cons.mpr ⟨fun z hz => ?_, insI_lt x h2⟩
        rcases (insI_mem x z l).mp hz with rfl | hz
        · omega
        · exact h1 z hz
theorem sortI_lt : ∀ ns : List Int, (sortI ns).Pairwise (· < ·)
  | [] => .nil
  | x :: l => insI_lt x (sortI_lt l)
theorem sortI_mem (k : Int) : ∀ ns : List Int, k ∈ sortI ns ↔ k ∈ ns
  | [] => by simp [sortI]
  | x :: l => by
    show k ∈ insI x (sortI l) ↔ _
    rw [insI_mem, sortI_mem k l, List.mem_cons]
theorem lt_uniq : ∀ {a b : List Int}, a.Pairwise (· < ·) → b.Pairwise (· < ·) → (∀ k, k ∈ a ↔ k ∈ b) → a = b
  | [], [], _, _, _ => rfl
  | [], y :: b, _, _, h => by have := (h y).mpr List.mem_cons_self; cases this
  | x :: a, [], _, _, h => by have := (h x).mp List.mem_cons_self; cases this
  | x :: a, y :: b, ha, hb, h => by
    obtain ⟨a1, a2⟩ := List.pairwise_cons.mp ha
    obtain ⟨b1, b2⟩ := List.pairwise_cons.mp hb
    have e : x = y := by
      rcases List.mem_cons.mp ((h x).mp List.mem_cons_self) with e | e
      · exact e
      · rcases List.mem_cons.mp ((h y).mpr List.mem_cons_self) with e2 | e2
        · exact e2.symm
        · have := b1 x e
          have := a1 y e2
          omega
    subst e
    rw [lt_uniq a2 b2 fun k => ?_]
    constructor
    · intro hk
      rcases List.mem_cons.mp ((h k).mp (List.mem_cons_of_mem _ hk)) with e | e
      · subst e; have := a1 k hk; omega
      · exact e
    · intro hk
      rcases List.mem_cons.mp ((h k).mpr (List.mem_cons_of_mem _ hk)) with e | e
      · subst e; have := b1 k hk; omega
      · exact e
def rSrtI (w : World) : List V → Hp → VK → Prop := fun vs H Q => ∃ (a : Addr) (ns : List Int), vs = [V.ref a] ∧ H a = some (SetIO w a ns) ∧ ns.length < 64 ∧ ∀ p, H p = none → Q (.ref p) (upd H p (.lst ((sortI ns).map V.int)))
theorem cr_srtI {X : Cx} (hc : X.calm = true) : CallR X (.builtin "sorted") (rSrtI X.w) := by
  intro pins s σ H vs us Q I r h
  obtain ⟨a, ns, rfl, ha, h64, q⟩ := h
  have R0 : SStr.SetI X.w s.heap a ns := (I.hok a _ ha).1
  obtain ⟨n, R, hn⟩ := R0
  rw [Vals.ref1 r]
  refine sorted_set R (I.ok.hd hc) (by omega) fun s' p out c ns' k g o hp hg hi pw hm hl => ?_
  have e : ns' = sortI ns := lt_uniq pw (sortI_lt ns) fun k => by rw [hm k, sortI_mem, decide_eq_true_eq]
  subst e
  have hlen : ((sortI ns).map V.int).length ≤ sizeLine := by rw [List.length_map, sizeLine_eq]; omega
  have hnp : H p = none := I.hok.fresh hp
  have J : Inv X pins σ (upd H p (.lst ((sortI ns).map V.int))) { s with heap := s'.heap, gens := s'.gens, drawn := s'.drawn, toks := s'.toks } :=
    I.call (ch := []) (Un.laid k hp hnp) (I.hok.laid k hp ⟨hlen, out.toList, c, vals_of_ints hi, hg⟩) (by rw [g]; exact I.bare) (fun _ z => nomatch z)
  have e : s' = { s with heap := s'.heap, gens := s'.gens, drawn := s'.drawn, toks := s'.toks } := by
    cases s'
    cases s
    cases o
    rfl
  rw [e]
  exact ⟨.ref p, _, J, rfl, q p hnp⟩
def rSetA (K : KK) (w : World) : List V → Hp → VK → Prop := fun vs H Q => rSetS K w vs H Q ∨ rSetT K w vs H Q ∨ rSetI K w vs H Q
theorem cr_setA {X : Cx} (hc : X.calm = true) : CallR X (.type "set") (rSetA X.KK X.w) := by
  intro pins s σ H vs us Q I r h
  rcases h with h | h | h
  · exact cr_setS hc pins s σ H vs us Q I r h
  · exact cr_setT hc pins s σ H vs us Q I r h
  · exact cr_setI hc pins s σ H vs us Q I r h
def rSrtA (w : World) : List V → Hp → VK → Prop := fun vs H Q => rSrtS w vs H Q ∨ rSrtI w vs H Q
theorem cr_srtA {X : Cx} (hu : X.A.units + 65 < cLine) (hc : X.calm = true) : CallR X (.builtin "sorted") (rSrtA X.w) := by
  intro pins s σ H vs us Q I r h
  rcases h with h | h
  · exact cr_srtS hu hc pins s σ H vs us Q I r h
  · exact cr_srtI hc pins s σ H vs us Q I r h
end PLq
namespace PLq
open PySem L2
def TyW (K : KK) (T : String) (x : V) (H : Hp) : Prop := tyV K T x H ∨ (T = "tuple" ∧ ∃ a o xs, x = .ref a ∧ H a = some (.frz o (.tup xs)) ∧ o.dict = none)
section
variable {X : Cx}
theorem tyW_is {pins : List (Addr × Obj)} {σ : L2.St} {H : Hp} {s : Shared} {T : String} {x : V} {v : Value} (I : Inv X pins σ H s) (r : RelV x v) (ty : TyW X.KK T x H) :
    s.TypeIs v T ∧ ∀ a, v = .ref a → ∃ ob, s.heap.get? a = some ob ∧ ob.dict = none := by
  rcases ty with ty | ⟨rfl, a, o, xs, rfl, h, hd⟩
  · exact tyV_is I r ty
  · cases r
    obtain ⟨h1, _, its, _, o', h2, h3, _⟩ := I.hok a _ h
    rw [h1] at h2; cases h2
    exact ⟨⟨o, h1, h3⟩, fun b e => by cases e; exact ⟨o, h1, hd⟩⟩
def tBMW (K : KK) (T : String) (r : V → List V → Hp → VK → Prop) (to : TE) (t : TA) : TE := fun σ H Q => to σ H fun x H1 => TyW K T x H1 ∧ t σ H1 fun xs H2 => r x xs H2 Q
variable {o e : Expr} {es : List Expr} {to : TE} {t : TA} {name : Str} {apos cpos : Pos} {T id : String} {r : V → List V → Hp → VK → Prop}
theorem pe_bmW (pa : PlainAttrs T) (slot : Slot T name id) (hty : typeOf (.builtin id) = pure (.type "method_descriptor")) (hm : MtR X id r) (ho : PE X o to) (ha : PA X (e :: es) t)
    (hbase : attributeBase o name X.env (eval o X.env) = eval o X.env)
    (hfew : ((backTo cpos (starEach (e :: es) X.env)).all (fun x => !x.1) && (backToKw cpos (keywordEach [] X.env)).all (fun x => x.1.isSome)
      && decide ((e :: es).length + ([] : List Keyword).length + (if ([] : List Keyword).isEmpty then 0 else 1) < 30)) = true)
    (hline : (apos.endLine == cpos.line) = true) (hs : starEach (e :: es) X.env = (false, eval e X.env) :: starEach es X.env) (hplain : (backTo cpos (starEach es X.env)).any (·.1) = false) :
    PE X (.Call (.Attribute o name apos) (e :: es) [] cpos) (tBMW X.KK T r to t) := by
  refine ⟨fun pins s σ H Q I h => ?_⟩
  refine wpAny_Call_method_late hbase hfew hline rfl (thn (ho.run pins s σ H _ I h) fun v s1 ⟨x, H1, I1, r1, ty, q1⟩ => ?_)
  obtain ⟨h1, h2⟩ := tyW_is I1 r1 ty
  refine ⟨T, id, pa, slot, hty, h1, h2, ?_⟩
  have hA := ha.run cpos pins s1 σ H1 _ I1 q1
  rw [hs] at hA ⊢
  refine Calls.callWith_builtin (by show (false || (backTo cpos (starEach es X.env)).any (·.1)) = false; rw [hplain] <;> rfl) (Calls.evalArgs_plain ?_)
  exact thn hA fun us s2 ⟨vs, H2, I2, r2, q2⟩ => hm pins s2 σ H2 x vs v us Q I2 r1 r2 q2
end
def joinT (sep : T) : List T → T
  | [] => []
  | [x] => x
  | x :: y :: r => x ++ (sep ++ joinT sep (y :: r))
def startsT (x y : T) : Bool := x.take y.length == y
def endsT (x y : T) : Bool := decide (y.length ≤ x.length) && x.drop (x.length - y.length) == y
def splitT (c : Nat) : T → List T
  | [] => [[]]
  | d :: x => if d = c then [] :: splitT c x else match splitT c x with
    | [] => [[d]]
    | y :: r => (d :: y) :: r
inductive Met where
  | join | starts | ends | index | tindex | count | lindex | split
  deriving DecidableEq
def firstIx (x : T) : List T → Nat → Option Nat
  | [], _ => none
  | y :: ys, n => if y = x then some n else firstIx x ys (n + 1)
def metD : Met → D → List D → Option D
  | .join, .str sep, [.lst ds] => match strsD ds with
    | some ss => if (ss.map (·.length)).sum + ss.length * sep.length ≤ szL then some (.str (joinT sep ss)) else none
    | none => none
  | .starts, .str x, [.str y] => some (.bl (startsT x y))
  | .ends, .str x, [.str y] => some (.bl (endsT x y))
  | .index, .str x, [.str [c]] => if x = [97, 98, 99, 100] ∧ c ∈ x then some (.int ((c - 97 : Nat) : Int)) else none
  | .tindex, .tup ds, [.str x] => match strsD ds with
    | some ss => (firstIx x ss 0).map fun n : Nat => D.int (n : Int)
    | none => none
  | .count, .lst ds, [x] => cntD (.lst ds) x
  | .lindex, .lst ds, [x] => if fine (.lst ds) && fine x then (ds.findIdx? fun d => eqD d x).map fun n : Nat => D.int (n : Int) else none
  | .split, .str x, [.str [c]] => if x.length + 2 ≤ szL ∧ c < 256 then some (.lst ((splitT c x).map D.str)) else none
  | _, _, _ => none
def Met.T : Met → String
  | .join => "str" | .starts => "str" | .ends => "str" | .index => "str" | .tindex => "tuple" | .count => "list" | .lindex => "list" | .split => "str"
def Met.nm : Met → Str
  | .join => "join" | .starts => "startswith" | .ends => "endswith" | .index => "index" | .tindex => "index" | .count => "count" | .lindex => "index" | .split => "split"
def Met.id : Met → String
  | .join => "str.join" | .starts => "str.startswith" | .ends => "str.endswith" | .index => "str.index" | .tindex => "tuple.index" | .count => "list.count" | .lindex => "list.index" | .split => "str.split"
theorem Met.plain : ∀ m : Met, PlainAttrs m.T
  | .join => PySem.F.plainAttrs_str | .starts => PySem.F.plainAttrs_str | .ends => PySem.F.plainAttrs_str | .index => PySem.F.plainAttrs_str | .tindex => PySem.F.plainAttrs_tuple | .count => PySem.F.plainAttrs_list | .lindex => PySem.F.plainAttrs_list | .split => PySem.F.plainAttrs_str
theorem Met.slot : ∀ m : Met, Slot m.T m.nm m.id
  | .join => PySem.F.slot_str_join | .starts => PySem.F.slot_str_startswith | .ends => PySem.F.slot_str_endswith | .index => PySem.F.slot_str_index | .tindex => PySem.F.slot_tuple_index | .count => PySem.F.slot_list_count | .lindex => PySem.F.slot_list_index | .split => PySem.F.slot_str_split
theorem Met.ty : ∀ m : Met, typeOf (.builtin m.id) = pure (.type "method_descriptor")
  | .join => PySem.F.type_str_join | .starts => PySem.F.type_str_startswith | .ends => PySem.F.type_str_endswith | .index => PySem.F.type_str_index | .tindex => PySem.F.type_tuple_index | .count => PySem.F.type_list_count | .lindex => PySem.F.type_list_index | .split => PySem.F.type_str_split
def rMet (X : Cx) : Met → V → List V → Hp → VK → Prop
  | .join => fun x xs H Q => ∃ a p, ∃ ys : List Str, x = .str a ∧ xs = [.ref p] ∧ (SqL X.KK H p (ys.map V.str) ∨ SqT X.KK H p (ys.map V.str)) ∧
    (ys.map (·.length)).sum + ys.length * a.length ≤ 16777216 ∧ Q (.str (Txt.join a ys)) H
  | .starts => fun x xs H Q => ∃ a b, x = .str a ∧ xs = [.str b] ∧ Q (.bl (Txt.startswith a b)) H
  | .ends => fun x xs H Q => ∃ a b, x = .str a ∧ xs = [.str b] ∧ Q (.bl (Txt.endswith a b)) H
  | .index => fun x xs H Q => ∃ (a b : Str) (k : Nat) (rest : List Nat), x = .str a ∧ xs = [.str b] ∧ Builtin.Str.occurrences a b 0 a.length 1 = k :: rest ∧ Q (.int (k : Nat)) H
  | .tindex => fun x xs H Q => ∃ p, ∃ ys : List Str, ∃ z j, x = .ref p ∧ xs = [.str z] ∧ SqT X.KK H p (ys.map V.str) ∧ ys[j]? = some z ∧ (∀ m, m < j → ys[m]? ≠ some z) ∧ Q (.int (j : Nat)) H
  | .count => fun x xs H Q => X.A.units + 65 < cLine ∧ rCntD X.KK x xs H Q
  | .lindex => fun x xs H Q => X.A.units + 65 < cLine ∧ rIndexD X.KK x xs H Q
  | .split => fun x xs H Q => ∃ a b, x = .str a ∧ xs = [.str b] ∧ (b.length == 0) = false ∧ a.length + 2 ≤ sizeLine ∧ ∀ p, H p = none → Q (.ref p) (upd H p (.lst ((Txt.split a b).map V.str)))
theorem mt_indexF {X : Cx} : MtR X "str.index" (rMet X .index) := by
  intro pins s σ H x xs v us Q I rx rs h
  obtain ⟨a, b, k, rest, rfl, rfl, q, w⟩ := h
  obtain ⟨t, rfl⟩ := rx
  cases rs with
  | cons r1 rs =>
    cases rs
    obtain ⟨u, rfl⟩ := r1
    exact PySem.SC.index q ⟨.int (k : Nat), H, I.tok _, ⟨_, rfl⟩, w⟩
theorem met_call {X : Cx} : ∀ m : Met, MtR X m.id (rMet X m)
  | .join => mt_join
  | .starts => mt_startswith
  | .ends => mt_endswith
  | .index => mt_indexF
  | .tindex => mt_tup_index
  | .count => fun pins s σ H x xs v us Q I r1 r2 h => mt_cntD h.1 pins s σ H x xs v us Q I r1 r2 h.2
  | .lindex => fun pins s σ H x xs v us Q I r1 r2 h => mt_indexD h.1 pins s σ H x xs v us Q I r1 r2 h.2
  | .split => mt_split
theorem starts_ok (x y : T) : Txt.startswith (mkS x) (mkS y) = startsT x y := by
  unfold Txt.startswith startsT
  rw [PySem.StrLaws.subAt_eq, mkS_toList, mkS_toList, mkS_len, mkS_len, List.drop_zero]
  by_cases h : y.length ≤ x.length
  · rw [decide_eq_true (by omega : 0 + y.length ≤ x.length), Bool.true_and]
  · rw [decide_eq_false (by omega : ¬ 0 + y.length ≤ x.length), Bool.false_and]
    refine (beq_eq_false_iff_ne.mpr fun e => h ?_).symm
    have := congrArg List.length e
    rw [List.length_take] at this
    omega
theorem ends_ok (x y : T) : Txt.endswith (mkS x) (mkS y) = endsT x y := by
  unfold Txt.endswith endsT
  rw [PySem.StrLaws.subAt_eq, mkS_toList, mkS_toList, mkS_len, mkS_len, Nat.zero_add]
  by_cases h : y.length ≤ x.length
  · rw [decide_eq_true h, Bool.true_and, Bool.true_and, List.take_of_length_le]
    rw [List.length_drop]; omega
  · rw [decide_eq_false h, Bool.false_and, Bool.false_and]
theorem occ_abcd (c : Nat) (h : c ∈ [97, 98, 99, 100]) : Builtin.Str.occurrences (mkS [97, 98, 99, 100]) (mkS [c]) 0 (mkS [97, 98, 99, 100]).length 1 = [c - 97] := by
  simp only [List.mem_cons, List.not_mem_nil, or_false] at h
  rcases h with rfl | rfl | rfl | rfl <;> decide +kernel
theorem firstIx_spec (x : T) : ∀ (ys : List T) (n k : Nat), firstIx x ys n = some k → n ≤ k ∧ ys[k - n]? = some x ∧ ∀ m, m < k - n → ys[m]? ≠ some x
  | [], _, _, h => by simp [firstIx] at h
  | y :: ys, n, k, h => by
    unfold firstIx at h
    split at h
    · cases h
      rename_i e
      subst e
      refine ⟨Nat.le_refl _, by simp, fun m hm => by omega⟩
    · rename_i e
      obtain ⟨h1, h2, h3⟩ := firstIx_spec x ys (n + 1) k h
      have e2 : k - n = (k - (n + 1)) + 1 := by omega
      refine ⟨by omega, by rw [e2]; simpa using h2, fun m hm => ?_⟩
      cases m with
      | zero => simpa using e
      | succ m => simpa using h3 m (by omega)
theorem joinL_eq (sep : T) : ∀ ss : List T, TL.joinL sep ss = joinT sep ss
  | [] => rfl
  | [_] => rfl
  | x :: y :: r => by
    show x ++ (sep ++ TL.joinL sep (y :: r)) = x ++ (sep ++ joinT sep (y :: r))
    rw [joinL_eq sep (y :: r)]
theorem join_ok (sep : T) (ss : List T) : Txt.join (mkS sep) (ss.map mkS) = mkS (joinT sep ss) := by
  have h := TL.tl_join (mkS sep) (ss.map mkS)
  have e1 : TL.tl (mkS sep) = sep := mkS_toList sep
  have e2 : (ss.map mkS).map TL.tl = ss := by
    rw [List.map_map]
    conv => rhs; rw [← List.map_id ss]
    apply List.map_congr_left
    intro a _
    exact mkS_toList a
  rw [e1, e2, joinL_eq] at h
  rw [TL.join_eq, ← h]
  exact (mkS_of _).symm
theorem splitT_ne (c : Nat) : ∀ x, splitT c x ≠ []
  | [] => by simp [splitT]
  | d :: x => by
    unfold splitT
    split
    · simp
    · split <;> simp
theorem spl_one (c : Nat) : ∀ (x acc : T), TL.spl [c] 0 acc x = match splitT c x with
    | [] => [acc]
    | y :: r => (acc ++ y) :: r
  | [], acc => by simp [TL.spl, splitT]
  | d :: x, acc => by
    have ih := spl_one c x
    unfold TL.spl
    by_cases h : d = c
    · have hp : TL.pre [c] (d :: x) = true := by simp [TL.pre, h]
      rw [if_pos hp]
      show acc :: TL.spl [c] 0 [] x = _
      rw [ih]
      have e : splitT c (d :: x) = [] :: splitT c x := by simp [splitT, h]
      rw [e]
      cases q : splitT c x with
      | nil => exact absurd q (splitT_ne c x)
      | cons y r => simp
    · have hp : ¬ TL.pre [c] (d :: x) = true := by simp [TL.pre, h]
      rw [if_neg hp, ih]
      cases q : splitT c x with
      | nil => exact absurd q (splitT_ne c x)
      | cons y r =>
        have e : splitT c (d :: x) = (d :: y) :: r := by simp [splitT, h, q]
        rw [e]; simp
theorem split_mk {c : Nat} (hc : c < 256) (x : T) : Txt.split (mkS x) (mkS [c]) = (splitT c x).map mkS := by
  have e := TL.split_spl (mkS x) (mkS [c]) (by show (mkS [c]).cps.toList ≠ []; rw [mkS_toList]; simp) (TL.kind_ok (by rw [← Array.all_toList, mkS_toList]; simp [hc]))
  have e1 : TL.tl (mkS x) = x := mkS_toList x
  have e2 : TL.tl (mkS [c]) = [c] := mkS_toList [c]
  rw [e1, e2, spl_one] at e
  refine TL.map_tl_inj ?_
  rw [e, List.map_map]
  cases q : splitT c x with
  | nil => exact absurd q (splitT_ne c x)
  | cons y r =>
    simp only [List.nil_append]
    conv => lhs; rw [← List.map_id (y :: r)]
    exact List.map_congr_left fun a _ => (mkS_toList a).symm
theorem s_met {X : Cx} (hu : X.A.units + 65 < cLine) (m : Met) {own : List Addr} {H : Hp} (tr : ∀ a, a ∈ own → ∃ o, H a = some o) {x : V} {d : D} {vs : List V} {ds : List D} {z : D} {Q : VK} (hx : RepB X.KK own H x d) (hr : RepBs X.KK own H vs ds) (hz : metD m d ds = some z)
    (qq : ∀ v H', Same H H' → Rep X.KK (hid own H') v z → Q v H') : rMet X m x vs H Q := by
  unfold metD at hz
  split at hz
  · cases hx.str_
    obtain ⟨v, rfl, r⟩ := hr.one
    obtain ⟨a, ws, rfl, ha, ra⟩ := r.lst_
    split at hz
    · rename_i ss hs
      split at hz
      · cases hz
        rename_i hl
        have e := strsD_eq hs
        rw [e] at ra
        have e2 := ra.strs
        rw [e2] at ha
        refine ⟨_, a, ss.map mkS, rfl, rfl, .inl (.of ?_), ?_, ?_⟩
        · rw [List.map_map]; exact ha
        · rw [List.map_map, List.length_map, mkS_len]
          have e3 : ((fun x : Str => x.length) ∘ mkS) = fun x : T => x.length := by funext x; exact mkS_len x
          rw [e3]
          exact hl
        · rw [join_ok]
          exact qq _ _ (Same.refl _) (.str _)
      · cases hz
    · cases hz
  · cases hz
    cases hx.str_
    obtain ⟨v, rfl, r⟩ := hr.one
    cases r.str_
    exact ⟨_, _, rfl, rfl, by rw [starts_ok]; exact qq _ _ (Same.refl _) (.bl _)⟩
  · cases hz
    cases hx.str_
    obtain ⟨v, rfl, r⟩ := hr.one
    cases r.str_
    exact ⟨_, _, rfl, rfl, by rw [ends_ok]; exact qq _ _ (Same.refl _) (.bl _)⟩
  · cases hx.str_
    obtain ⟨v, rfl, r⟩ := hr.one
    cases r.str_
    split at hz
    · cases hz
      rename_i hl
      obtain ⟨rfl, hc⟩ := hl
      exact ⟨_, _, _, [], rfl, rfl, occ_abcd _ hc, qq _ _ (Same.refl _) (.int _)⟩
    · cases hz
  · rename_i ds' x
    obtain ⟨a, ws, o, rfl, h1', ha, h2', ra⟩ := hx.tup_
    obtain ⟨v, rfl, r⟩ := hr.one
    cases r.str_
    split at hz
    · rename_i ss hs
      simp only [Option.map_eq_some_iff] at hz
      obtain ⟨n, h1, rfl⟩ := hz
      have e := strsD_eq hs
      rw [e] at ra
      have e2 := ra.strs
      rw [e2] at ha
      obtain ⟨_, h2, h3⟩ := firstIx_spec x ss 0 n h1
      rw [Nat.sub_zero] at h2 h3
      refine ⟨a, ss.map mkS, mkS x, n, rfl, rfl, .inl (.inr ⟨o, ?_⟩), ?_, fun m hm e => h3 m hm ?_, qq _ _ (Same.refl _) (.int _)⟩
      · rw [List.map_map]; exact ha
      · rw [List.getElem?_map, h2]; rfl
      · rw [List.getElem?_map] at e
        cases q : ss[m]? with
        | none => rw [q] at e; cases e
        | some y =>
          rw [q] at e
          have := mkS_inj (Option.some.inj e)
          rw [this]
    · cases hz
  · rename_i ds' x
    obtain ⟨v, rfl, r⟩ := hr.one
    exact ⟨hu, s_cnt hx r hz qq⟩
  · rename_i ds' x
    obtain ⟨v, rfl, r⟩ := hr.one
    split at hz
    case isFalse => cases hz
    case isTrue hf =>
      simp only [Bool.and_eq_true] at hf
      simp only [Option.map_eq_some_iff] at hz
      obtain ⟨n, h1, rfl⟩ := hz
      obtain ⟨a, vs', rfl, ha, ra⟩ := hx.lst_
      obtain ⟨h2, h3, h4⟩ := List.findIdx?_eq_some_iff_getElem.mp h1
      refine ⟨hu, a, v, toPy x, toPys ds', n, toPy ds'[n], rfl, rfl, RepB.dp hx hf.1, RepB.dp r hf.2, hf.1, hf.2, ?_, h3, fun m z' hm e => ?_, qq _ _ (Same.refl _) (.int _)⟩
      · rw [toPys_map, List.getElem?_map, List.getElem?_eq_getElem h2]; rfl
      · rw [toPys_map, List.getElem?_map, List.getElem?_eq_getElem (by omega)] at e
        have e := Option.some.inj e
        subst e
        exact Bool.eq_false_iff.mpr (h4 m hm)
  · rename_i x c
    obtain ⟨v, rfl, r⟩ := hr.one
    cases hx.str_
    cases r.str_
    split at hz
    case isFalse => cases hz
    case isTrue hf =>
      cases hz
      refine ⟨_, _, rfl, rfl, by rw [mkS_len]; rfl, by rw [mkS_len, ← szL_eq]; exact hf.1, fun p hp => ?_⟩
      rw [split_mk hf.2]
      have tr : ∀ a, a ∈ own → ∃ o, H a = some o := tr
      obtain ⟨s1, r1⟩ := Rep.new_lst (K := X.KK) (own := own) tr hp (Reps.of_strs (splitT c x))
      rw [List.map_map]
      exact qq _ _ s1 r1
  · cases hz
def recvP : Met → D → Prop
  | .tindex, d => ∃ ds, d = .tup ds
  | .count, d => ∃ ds, d = .lst ds
  | .lindex, d => ∃ ds, d = .lst ds
  | _, d => ∃ y, d = .str y
theorem s_met_ty {X : Cx} (m : Met) {own : List Addr} {H : Hp} {x : V} {d : D} (hx : RepB X.KK own H x d) (ht : recvP m d) : TyW X.KK m.T x H := by
  cases m with
  | tindex =>
    obtain ⟨ds, rfl⟩ := ht
    obtain ⟨a, ws, o, rfl, _, ha, hn, _⟩ := hx.tup_
    exact .inr ⟨rfl, a, o, ws, rfl, ha, hn⟩
  | count =>
    obtain ⟨ds, rfl⟩ := ht
    obtain ⟨a, ws, rfl, ha, _⟩ := hx.lst_
    exact .inl (.inl ⟨rfl, _, .of ha⟩)
  | lindex =>
    obtain ⟨ds, rfl⟩ := ht
    obtain ⟨a, ws, rfl, ha, _⟩ := hx.lst_
    exact .inl (.inl ⟨rfl, _, .of ha⟩)
  | _ =>
    obtain ⟨y, rfl⟩ := ht
    cases hx.str_
    exact .inl rfl
end PLq
namespace PLq
open PySem L2
inductive Op2 where
  | add | sub | mul | mod | div
  deriving DecidableEq
inductive Ty where
  | int | bool | str | tuple | list
  deriving DecidableEq
inductive Tg where
  | name (i : Nat)
  | tup2 (a b : Tg)
inductive XOp where
  | rev | sorted | dict | tupS | lstS | intS | maxT | srtS | minL
  deriving DecidableEq
def revD : List D → Option D
  | [.str x] => if x.length ≤ szL then some (.str x.reverse) else none
  | [.lst ds] => some (.lst ds.reverse)
  | [.tup ds] => some (.tup ds.reverse)
  | _ => none
def srtSD : List D → Option D
  | [.lst ds] => match strsD ds with
    | some xs => if xs.length < 4000 then some (.lst ((sS (SStr.seen (xs.map mkS))).map fun y => D.str y.cps.toList)) else none
    | none => match intsD ds with
      | some ns => if ns.length < 60 then some (.lst ((sortI ns).map D.int)) else none
      | none => none
  | [.tup ds] => match strsD ds with
    | some xs => if xs.length < 4000 then some (.lst ((sS (SStr.seen (xs.map mkS))).map fun y => D.str y.cps.toList)) else none
    | none => none
  | _ => none
def dget3 (kvs : List (D × D)) (k x : D) : Option D := if (keyD k).isSome then some ((dget kvs k).getD x) else none
def dkOf : D → Option (List (D × D))
  | .dk kvs => some kvs
  | _ => none
def xopD : XOp → List D → Option D
  | .rev => revD
  | .sorted => srtD
  | .dict => dictD
  | .tupS => tupSD
  | .lstS => lstSD
  | .intS => intSD
  | .maxT => maxTD
  | .minL => minLD
  | .srtS => srtSD
inductive Hd where
  | ref (i : Nat) (f : Str) (l : List Ex) | non
  deriving DecidableEq
structure TrD where
  m : Option Ex
  es : List Ex
  h : Hd
  deriving DecidableEq
mutual
inductive Cd where
  | var (i : Nat) | lvar (i : Nat)
  | int (i : Int) | str (x : T) | bl (b : Bool) | non
  | gstr (n : Nat) | gint (n : Nat)
  | bin (o : Op2) (a b : Cd) | neg (a : Cd)
  | cmp (c : Cmp) (a b : Cd) | chain (c1 c2 : Cmp) (a b c : Cd)
  | and (a b : Cd) | or (a b : Cd) | not (a : Cd)
  | ite (c a b : Cd)
  | tup (xs : Cds) | lst (xs : Cds) | dnew | dnewT
  | idx (a i : Cd) | dget (a k : Cd) | get3 (a k x : Cd)
  | sl0 (a lo : Cd) | sl1 (a hi : Cd) | sl2 (a lo hi : Cd)
  | isi (t : Ty) (a : Cd)
  | bif (b : Bif) (xs : Cds) | met (m : Met) (a : Cd) (xs : Cds)
  | call (n : Nat) (xs : Cds)
  | call0 (n : Nat) | callL (n : Nat) (xs : Cds) | fcall (ns : List Nat) (w : Cd) (xs : Cds)
  | xop (o : XOp) (xs : Cds)
  | lc (own : List Nat) (tg : Tg) (it : It) (c : Cd) (e : Cd)
  | lcD (own : List Nat) (tg : Tg) (i : Nat) (c : Cd) (e : Cd)
inductive Cds where
  | nil | cons (a : Cd) (r : Cds)
inductive It where
  | of (a : Cd) | rng1 (a : Cd) | rng2 (a b : Cd) | rng3 (a b c : Cd) | zip (a b : Cd) | enum (a : Cd)
end
def flatR : D → Res D
  | .lst ds => match intsD ds with
    | some _ => .ok (.lst ds)
    | none => .stuck
  | _ => .stuck
def opD : Op2 → D → D → Option D
  | .add => addD | .sub => subD | .mul => mulD | .mod => modD | .div => divD
def assignTg : Tg → D → Env → Option Env
  | .name i, d, ρ => some (ρ.set i (some d))
  | .tup2 a b, .tup [x, y], ρ => (assignTg a x ρ).bind fun ρ1 => assignTg b y ρ1
  | .tup2 _ _, _, _ => none
def wipeD (ρ : Env) : List Nat → Env
  | [] => ρ
  | v :: vs => (wipeD ρ vs).set v none
def isiD : Ty → D → Bool
  | .int, .int _ => true | .int, .bl _ => true
  | .bool, .bl _ => true
  | .str, .str _ => true
  | .tuple, .tup _ => true
  | .list, .lst _ => true | .list, .scr _ => true
  | _, _ => false
def tst {α : Type} (r : Res D) (f : Bool → Res α) : Res α := r.bind fun d => match d with
  | .bl b => f b
  | _ => .stuck
def itemsD : D → Option (List D)
  | .lst ds => some ds
  | .tup ds => some ds
  | .str x => if x.length ≤ szL then some (x.map fun c => D.str [c]) else none
  | .scr ns => some (ns.map D.int)
  | _ => none
def rngL (lo : Int) : Nat → Int → List D
  | 0, _ => []
  | n + 1, st => .int lo :: rngL (lo + st) n st
def inB (i : Int) : Bool := decide (-(2 ^ 62) ≤ i ∧ i < 2 ^ 62)
def rng1D : D → Option (List D)
  | .int n => if inB n then some (rngL 0 n.toNat 1) else none
  | _ => none
def rng2D : D → D → Option (List D)
  | .int a, .int b => if inB a && inB b then some (rngL a (b - a).toNat 1) else none
  | _, _ => none
def rng3D : D → D → D → Option (List D)
  | .int a, .int b, .int c => if decide (c ≠ 0 ∧ c.natAbs < 1073741824) && Builtin.Range.small a b c && decide (0 ≤ Builtin.Range.rangeSize a b c) then some (rngL a (Builtin.Range.rangeSize a b c).toNat c) else none
  | _, _, _ => none
def pairs (xs ys : List D) : List D := (xs.zip ys).map fun p => D.tup [p.1, p.2]
def zipD : D → D → Option (List D)
  | .lst xs, .lst ys => some (pairs xs ys)
  | .tup xs, .tup ys => some (pairs xs ys)
  | _, _ => none
def zipB : D → D → Option (List D)
  | .tup xs, .lst ys => some (pairs xs ys)
  | .str x, .str y => some (pairs (x.map fun c => .str [c]) (y.map fun c => .str [c]))
  | a, b => zipD a b
def numsL : Nat → Nat → List D
  | 0, _ => []
  | n + 1, k => .int (k : Nat) :: numsL n (k + 1)
def enumD : D → Option (List D)
  | .lst xs => some (pairs (numsL xs.length 0) xs)
  | .tup xs => some (pairs (numsL xs.length 0) xs)
  | _ => none
def optI : D → Option Int
  | .int i => some i
  | _ => none
def lcR (tg : Tg) (c e : Env → Res D) (ρ : Env) : List D → Res (List D)
  | [] => .ok []
  | d :: ds => match assignTg tg d ρ with
    | none => .stuck
    | some ρ1 => match c ρ1 with
      | .ok (.bl true) => (match e ρ1 with
        | .ok y => (lcR tg c e ρ ds).bind fun ys => .ok (y :: ys)
        | .exc x => .exc x
        | .stuck => .stuck)
      | .ok (.bl false) => lcR tg c e ρ ds
      | _ => .stuck
def noX {α : Type} : Res α → Res α
  | .exc _ => .stuck
  | r => r
def keysD (ρ : Env) (i : Nat) : Res (List D) := match ρ[i]? with
  | some (some (.dk kvs)) => .ok (kvs.map (·.1))
  | _ => .stuck
abbrev Tbl := List (Str × (List D → Res D))
def Tbl.fn : Tbl → Nat → List D → Res D
  | [], _, _ => .stuck
  | p :: _, 0, ds => p.2 ds
  | _ :: r, n + 1, ds => Tbl.fn r n ds
abbrev Cns := List (Str × D)
def Cns.at (c : Cns) (n : Nat) : Res D := match c[n]? with
  | some p => .ok p.2
  | none => .stuck
def recvOk : Met → D → Bool
  | .tindex, .tup _ => true
  | .tindex, _ => false
  | .count, .lst _ => true
  | .count, _ => false
  | .lindex, .lst _ => true
  | .lindex, _ => false
  | _, .str _ => true
  | _, _ => false
def selN (ns : List Nat) : D → Option Nat
  | .int j => if 0 ≤ j then ns[j.toNat]? else none
  | _ => none
mutual
def ev (Γ : Tbl) (C : Cns) : Cd → Env → Res D
  | .var i, ρ => match ρ[i]? with
    | some (some d) => .ok d
    | _ => .stuck
  | .lvar i, ρ => match ρ[i]? with
    | some (some d) => .ok d
    | _ => .stuck
  | .int i, _ => .ok (.int i)
  | .str x, _ => .ok (.str x)
  | .bl b, _ => .ok (.bl b)
  | .non, _ => .ok .non
  | .gstr n, _ => C.at n
  | .gint n, _ => C.at n
  | .bin o a b, ρ => (ev Γ C a ρ).bind fun x => (ev Γ C b ρ).bind fun y => ofO (opD o x y)
  | .neg a, ρ => (ev Γ C a ρ).bind fun x => ofO (negD x)
  | .cmp c a b, ρ => (ev Γ C a ρ).bind fun x => (ev Γ C b ρ).bind fun y => ofO (cmpD c x y)
  | .chain c1 c2 a b c, ρ => (ev Γ C a ρ).bind fun x => (ev Γ C b ρ).bind fun y => (ofO (cmpD c1 x y)).bind fun r => match r with
    | .bl true => (ev Γ C c ρ).bind fun z => ofO (cmpD c2 y z)
    | .bl false => .ok (.bl false)
    | _ => .stuck
  | .and a b, ρ => tst (ev Γ C a ρ) fun k => if k then tst (ev Γ C b ρ) fun k2 => .ok (.bl k2) else .ok (.bl false)
  | .or a b, ρ => tst (ev Γ C a ρ) fun k => if k then .ok (.bl true) else tst (ev Γ C b ρ) fun k2 => .ok (.bl k2)
  | .not a, ρ => tst (ev Γ C a ρ) fun k => .ok (.bl (!k))
  | .ite c a b, ρ => tst (ev Γ C c ρ) fun k => if k then ev Γ C a ρ else ev Γ C b ρ
  | .tup xs, ρ => (evs Γ C xs ρ).bind fun ds => if ds.length ≤ szL then .ok (.tup ds) else .stuck
  | .lst xs, ρ => (evs Γ C xs ρ).bind fun ds => if ds.length ≤ szL then .ok (.lst ds) else .stuck
  | .dnew, _ => .ok (.dk [])
  | .dnewT, _ => .ok (.dkT [])
  | .idx a i, ρ => (ev Γ C a ρ).bind fun x => (ev Γ C i ρ).bind fun y => ofO (idxD x y)
  | .dget a k, ρ => (ev Γ C a ρ).bind fun x => (ev Γ C k ρ).bind fun y => match x with
    | .dk kvs => ofO (dget kvs y)
    | _ => .stuck
  | .get3 a k x, ρ => (ev Γ C a ρ).bind fun d => (ofO (dkOf d)).bind fun kvs => (ev Γ C k ρ).bind fun y => (ev Γ C x ρ).bind fun z => ofO (dget3 kvs y z)
  | .sl0 a lo, ρ => (ev Γ C a ρ).bind fun x => (ev Γ C lo ρ).bind fun l => (ofO (optI l)).bind fun l => ofO (slD x (some l) none)
  | .sl1 a hi, ρ => (ev Γ C a ρ).bind fun x => (ev Γ C hi ρ).bind fun h => (ofO (optI h)).bind fun h => ofO (slD x none (some h))
  | .sl2 a lo hi, ρ => (ev Γ C a ρ).bind fun x => (ev Γ C lo ρ).bind fun l => (ofO (optI l)).bind fun l => (ev Γ C hi ρ).bind fun h => (ofO (optI h)).bind fun h => ofO (slD x (some l) (some h))
  | .isi t a, ρ => (ev Γ C a ρ).bind fun x => .ok (.bl (isiD t x))
  | .bif b xs, ρ => (evs Γ C xs ρ).bind fun ds => ofO (bifD b ds)
  | .met m a xs, ρ => (ev Γ C a ρ).bind fun x => if recvOk m x then (evs Γ C xs ρ).bind fun ds => ofO (metD m x ds) else .stuck
  | .xop o xs, ρ => (evs Γ C xs ρ).bind fun ds => ofO (xopD o ds)
  | .call n xs, ρ => (evs Γ C xs ρ).bind fun ds => Γ.fn n ds
  | .call0 n, _ => Γ.fn n []
  | .callL n xs, ρ => (evs Γ C xs ρ).bind fun ds => (Γ.fn n ds).bind flatR
  | .fcall ns w xs, ρ => (ev Γ C w ρ).bind fun y => (ofO (selN ns y)).bind fun n => (evs Γ C xs ρ).bind fun ds => Γ.fn n ds
  | .lc own tg it c e, ρ => (evi Γ C it ρ).bind fun ds => if ds.length ≤ szL then (lcR tg (ev Γ C c) (ev Γ C e) (wipeD ρ own) ds).bind fun ys => .ok (.lst ys) else .stuck
  | .lcD own tg i c e, ρ => (keysD ρ i).bind fun ds => if ds.length ≤ szL then (noX (lcR tg (ev Γ C c) (ev Γ C e) (wipeD ρ own) ds)).bind fun ys => .ok (.lst ys) else .stuck
def evs (Γ : Tbl) (C : Cns) : Cds → Env → Res (List D)
  | .nil, _ => .ok []
  | .cons a r, ρ => (ev Γ C a ρ).bind fun x => (evs Γ C r ρ).bind fun xs => .ok (x :: xs)
def evi (Γ : Tbl) (C : Cns) : It → Env → Res (List D)
  | .of a, ρ => (ev Γ C a ρ).bind fun x => ofO (itemsD x)
  | .rng1 a, ρ => (ev Γ C a ρ).bind fun x => ofO (rng1D x)
  | .rng2 a b, ρ => (ev Γ C a ρ).bind fun x => (ev Γ C b ρ).bind fun y => ofO (rng2D x y)
  | .rng3 a b c, ρ => (ev Γ C a ρ).bind fun x => (ev Γ C b ρ).bind fun y => (ev Γ C c ρ).bind fun z => ofO (rng3D x y z)
  | .zip a b, ρ => (ev Γ C a ρ).bind fun x => (ev Γ C b ρ).bind fun y => ofO (zipB x y)
  | .enum a, ρ => (ev Γ C a ρ).bind fun x => ofO (enumD x)
end
end PLq
namespace PLq
open PySem L2
def spP (K : KK) (ec : Ex → Addr) (n : Nat) (F : List D → Res D) : Sp := fun vs H Q E => ∃ own ds, (∀ a, a ∈ own → ∃ o, H a = some o) ∧ Reps K (hid own H) vs ds ∧ ds.length = n ∧
  match F ds with
  | .ok d => ∀ v H', Same H H' → Rep K (hid own H') v d → Q v H'
  | .exc e => ∀ H', Same H H' → E (.ref (ec e)) none H'
  | .stuck => False
def frN : List Str := ["times"]
def spF (K : KK) (ec : Ex → Addr) (n : Nat) (F : List D → Res D) : Sp := fun vs H Q E => ∃ own ds, (∀ a, a ∈ own → ∃ o, H a = some o) ∧ Reps K (hid own H) vs ds ∧ ds.length = n ∧
  match F ds with
  | .ok d => ∀ v H', Same H H' → Rep K (hid own H') v d → (∀ a, v = .ref a → H a = none) → Q v H'
  | .exc e => ∀ H', Same H H' → E (.ref (ec e)) none H'
  | .stuck => False
def frT : List Str := ["cut"]
def FirstNew (H H' : Hp) (v : V) : Prop := ∀ p a ws o, v = .ref p → H' p = some (.frz o (.tup (.ref a :: ws))) → H a = none
def spT (K : KK) (ec : Ex → Addr) (n : Nat) (F : List D → Res D) : Sp := fun vs H Q E => ∃ own ds, (∀ a, a ∈ own → ∃ o, H a = some o) ∧ Reps K (hid own H) vs ds ∧ ds.length = n ∧
  match F ds with
  | .ok d => ∀ v H', Same H H' → Rep K (hid own H') v d → FirstNew H H' v → Q v H'
  | .exc e => ∀ H', Same H H' → E (.ref (ec e)) none H'
  | .stuck => False
theorem spT_of {K : KK} {ec : Ex → Addr} {n : Nat} {F : List D → Res D} {vs : List V} {H : Hp} {Q : VK} {E : XK} (h : spP K ec n F vs H Q E) : spT K ec n F vs H Q E := by
  obtain ⟨own, ds, h1, h2, h3, h4⟩ := h
  refine ⟨own, ds, h1, h2, h3, ?_⟩
  cases q : F ds with
  | ok d => rw [q] at h4; exact fun v H' s r _ => h4 v H' s r
  | exc e => rw [q] at h4; exact h4
  | stuck => rw [q] at h4; exact h4
def wsh (ec : Ex → Addr) (W : WX) : Wsh := fun e σ H => W (.ref (ec e)) none σ H
def FnAt (X : Cx) (ec : Ex → Addr) (x : Str) (F : List D → Res D) : Prop :=
  ∃ n k f fd ps, (∀ ds, ds.length ≠ n → F ds = .stuck) ∧ FnOk X.prog X.w X.KK X.mg X.base (L2.CX X.prog X.w) k f fd ps (spP X.KK ec n F) ∧ X.mg x = some (.ref f) ∧ PySem.W.keepIn X.KK (.ref f) = true ∧ Binds X.KK fd ps [] ∧ Room k X.A ∧ (frN.contains x = true → FnOk X.prog X.w X.KK X.mg X.base (L2.CX X.prog X.w) k f fd ps (spF X.KK ec n F)) ∧ (frT.contains x = true → FnOk X.prog X.w X.KK X.mg X.base (L2.CX X.prog X.w) k f fd ps (spT X.KK ec n F))
structure Ck where
  N : List Str
  sc : Scope
  lin : List Nat
  fs : List Str
  cs : List Str
  trs : List TrD
def Ck.slot (ck : Ck) (i : Nat) (x : Str) : Bool := decide (ck.N[i]? = some x) && (match ck.sc.names.lookup x with
  | some .local => true | some .cell => true | some .free => true
  | _ => false) && !(x == "__debug__") && !(x == "__classdict__")
def Ck.glob (ck : Ck) (x : Str) : Bool := decide (ck.sc.names.lookup x = some .globalImplicit) && !(x == "__debug__") && !(x == "__name__")
def plainE : Expr → Bool
  | .Starred _ _ => false
  | .Slice _ _ _ _ => false
  | .Set _ _ _ => false
  | .NamedExpr _ _ _ => false
  | .BoolOp _ _ _ => true
  | _ => true
def Op2.op : Op2 → Operator
  | .add => .Add | .sub => .Sub | .mul => .Mult | .mod => .Mod | .div => .FloorDiv
def Ty.nm : Ty → Str
  | .int => "int" | .bool => "bool" | .str => "str" | .tuple => "tuple" | .list => "list"
def Ty.s : Ty → String
  | .int => "int" | .bool => "bool" | .str => "str" | .tuple => "tuple" | .list => "list"
def attrLine (a c : Pos) : Bool := a.endLine == c.line
def baseOk : Expr → Bool
  | .Call (.Name _ _) [] [] _ => false
  | _ => true
def byVal : Expr → Bool
  | .UnaryOp .Not _ _ => false
  | .BoolOp _ _ _ => false
  | .IfExp _ _ _ _ => false
  | .Compare _ _ _ _ => false
  | _ => true
def tgIn (own : List Nat) : Tg → Bool
  | .name i => own.contains i
  | .tup2 a b => tgIn own a && tgIn own b
def okTg (ck : Ck) (fc : Str → Bool) : Tg → Expr → Bool
  | .name i, .Name x _ => decide (ck.N[i]? = some x) && (decide (ck.sc.names.lookup x = some .local) || (decide (ck.sc.names.lookup x = some .cell) && fc x)) && !ck.lin.contains i
  | .tup2 a b, .Tuple [e1, e2] _ _ => okTg ck fc a e1 && okTg ck fc b e2 && plainE e1 && plainE e2
  | _, _ => false
def tstOk : Cd → Bool
  | .ite _ _ _ => false
  | .and a b => tstOk a && tstOk b
  | .or a b => tstOk a && tstOk b
  | .not a => tstOk a
  | _ => true
def xSyn (ck : Ck) : XOp → Expr → Option (List Expr)
  | .rev, .Subscript a (.Slice none none (some (.UnaryOp .USub (.Constant (.int 1) _ _) _)) _) _ => some [a]
  | .sorted, .Call (.Name f _) [a] [] _ => if decide (f = "sorted") && ck.glob f then some [a] else none
  | .dict, .Call (.Name f _) [a] [] _ => if decide (f = "dict") && ck.glob f then some [a] else none
  | .tupS, .Call (.Name f _) [a] [] _ => if decide (f = "tuple") && ck.glob f then some [a] else none
  | .lstS, .Call (.Name f _) [a] [] _ => if decide (f = "list") && ck.glob f then some [a] else none
  | .intS, .Call (.Name f _) [a] [] _ => if decide (f = "int") && ck.glob f then some [a] else none
  | .minL, .Call (.Name f _) [a] [] _ => if decide (f = "min") && ck.glob f then some [a] else none
  | .maxT, .Call (.Name f _) [a] [] _ => if decide (f = "max") && ck.glob f then some [a] else none
  | .srtS, .Call (.Name f _) [.Call (.Name g _) [a] [] _] [] _ => if decide (f = "sorted") && ck.glob f && decide (g = "set") && ck.glob g then some [a] else none
  | _, _ => none
def okNs (ck : Ck) : List Nat → List Expr → Bool
  | [], [] => true
  | n :: ns, .Name f _ :: es => decide (ck.fs[n]? = some f) && ck.glob f && okNs ck ns es
  | _, _ => false
mutual
def okE (ck : Ck) (m : Bool) : Cd → Expr → Bool
  | .var i, .Name x _ => ck.slot i x && !ck.lin.contains i
  | .lvar i, .Name x _ => m && ck.slot i x && ck.lin.contains i
  | .int i, .Constant (.int j) _ _ => decide (i = j)
  | .str s, .Constant (.str z) _ _ => decide (z.cps.toList = s)
  | .bl b, .Constant (.bool c) _ _ => b == c
  | .non, .Constant .none _ _ => true
  | .gstr n, .Name x _ => ck.glob x && decide (ck.cs[n]? = some x)
  | .gint n, .Name x _ => ck.glob x && decide (ck.cs[n]? = some x)
  | .bin o a b, .BinOp e1 op e2 _ => decide (op = o.op) && okE ck true a e1 && okE ck true b e2
  | .neg a, .UnaryOp .USub e1 _ => okE ck true a e1
  | .cmp c a b, .Compare e1 [op] [e2] _ => decide (op = c.op) && okE ck true a e1 && okE ck true b e2 && plainE e2
  | .chain c1 c2 a b c, .Compare e1 [o1, o2] [e2, e3] _ => decide (o1 = c1.op) && decide (o2 = c2.op) && okE ck false a e1 && okE ck false b e2 && okE ck false c e3 && plainE e2 && plainE e3
  | .and a b, .BoolOp .And es p => match es with
    | [e1, e2] => okE ck false a e1 && okE ck false b e2
    | e1 :: e2 :: e3 :: r => okE ck false a e1 && okE ck false b (.BoolOp .And (e2 :: e3 :: r) p)
    | _ => false
  | .or a b, .BoolOp .Or es p => match es with
    | [e1, e2] => okE ck false a e1 && okE ck false b e2
    | e1 :: e2 :: e3 :: r => okE ck false a e1 && okE ck false b (.BoolOp .Or (e2 :: e3 :: r) p)
    | _ => false
  | .not a, .UnaryOp .Not e1 _ => okE ck false a e1
  | .ite c a b, .IfExp e1 e2 e3 _ => tstOk c && okE ck false c e1 && okE ck false a e2 && okE ck false b e3
  | .tup xs, .Tuple es _ _ => oks ck xs es
  | .lst xs, .List es _ => oks ck xs es
  | .dnew, .Dict [] [] _ => true
  | .dnewT, .Dict [] [] _ => true
  | .idx a i, .Subscript e1 e2 _ => okE ck true a e1 && okE ck false i e2 && plainE e2
  | .dget a i, .Subscript e1 e2 _ => okE ck true a e1 && okE ck false i e2 && plainE e2
  | .get3 a k x, .Call (.Attribute e1 f p1) [e2, e3] [] p2 => decide (f = "get") && okE ck true a e1 && okE ck false k e2 && okE ck false x e3 && plainE e2 && plainE e3 && attrLine p1 p2 && baseOk e1
  | .sl0 a lo, .Subscript e1 (.Slice (some e2) none none _) _ => okE ck true a e1 && okE ck false lo e2
  | .sl1 a hi, .Subscript e1 (.Slice none (some e3) none _) _ => okE ck true a e1 && okE ck false hi e3
  | .sl2 a lo hi, .Subscript e1 (.Slice (some e2) (some e3) none _) _ => okE ck true a e1 && okE ck false lo e2 && okE ck false hi e3
  | .isi t a, .Call (.Name f _) [e1, .Name x _] [] _ => decide (f = "isinstance") && ck.glob f && okE ck true a e1 && plainE e1 && decide (x = t.nm) && ck.glob x
  | .bif b xs, .Call (.Name f _) es [] _ => decide (f = b.nm) && ck.glob f && okBs ck xs es && (match es with | [] => false | _ => true)
  | .met mm a xs, .Call (.Attribute e1 f p1) es [] p2 => decide (f = mm.nm) && okE ck false a e1 && okBs ck xs es && attrLine p1 p2 && baseOk e1 && (match es with | [_] => true | _ => false)
  | .call n xs, .Call (.Name f _) es [] _ => decide (ck.fs[n]? = some f) && ck.glob f && oks ck xs es && (match es with | [] => false | _ => true)
  | .callL n xs, .Call (.Name f _) es [] _ => decide (ck.fs[n]? = some f) && ck.glob f && frN.contains f && okBs ck xs es && (match es with | [] => false | _ => true)
  | .call0 n, .Call (.Name f _) [] [] _ => decide (ck.fs[n]? = some f) && ck.glob f
  | .fcall ns w xs, .Call (.Subscript (.List fl _) e2 _) (e1 :: es) [] _ => decide (ns.length ≤ 1000) && okNs ck ns fl && okE ck false w e2 && plainE e2 && oks ck xs (e1 :: es)
  | .xop o xs, e => match xSyn ck o e with
    | some es => okBs ck xs es
    | none => false
  | .lc own tg it c e, .ListComp elt [⟨target, iter, ifs, isa⟩] scope _ =>
    decide (isa = 0) && tstOk c && blkC ck.N ck.sc scope (own.map fun i => (ck.N.getD i Str.empty, i)) && okIt ck tg it iter && plainE iter && okTg { ck with sc := relS scope ck.sc } (fun x => scope.names.lookup x == some .cell) tg target && tgIn own tg && own.all (fun i => !ck.lin.contains i) &&
      (match ifs with
        | [] => (match c with | .bl true => true | _ => false)
        | [t] => okE { ck with sc := relS scope ck.sc } false c t
        | _ => false) && okE { ck with sc := relS scope ck.sc } false e elt
  | .lcD own tg i c e, .ListComp elt [⟨target, .Name x _, ifs, isa⟩] scope _ =>
    decide (isa = 0) && tstOk c && blkC ck.N ck.sc scope (own.map fun i => (ck.N.getD i Str.empty, i)) && ck.slot i x && !ck.lin.contains i && okTg { ck with sc := relS scope ck.sc } (fun x => scope.names.lookup x == some .cell) tg target && tgIn own tg && own.all (fun i => !ck.lin.contains i) &&
      (match ifs with
        | [] => (match c with | .bl true => true | _ => false)
        | [t] => okE { ck with sc := relS scope ck.sc } false c t
        | _ => false) && okE { ck with sc := relS scope ck.sc } false e elt
  | _, _ => false
def oks (ck : Ck) : Cds → List Expr → Bool
  | .nil, [] => true
  | .cons a r, e :: es => okE ck false a e && plainE e && oks ck r es
  | _, _ => false
def okBs (ck : Ck) : Cds → List Expr → Bool
  | .nil, [] => true
  | .cons a r, e :: es => okE ck true a e && plainE e && okBs ck r es
  | _, _ => false
def okIt (ck : Ck) (tg : Tg) : It → Expr → Bool
  | .of a, e => okE ck false a e
  | .rng1 a, .Call (.Name f _) [e1] [] _ => decide (f = "range") && ck.glob f && okE ck false a e1 && plainE e1
  | .rng2 a b, .Call (.Name f _) [e1, e2] [] _ => decide (f = "range") && ck.glob f && okE ck false a e1 && okE ck false b e2 && plainE e1 && plainE e2
  | .rng3 a b c, .Call (.Name f _) [e1, e2, e3] [] _ => decide (f = "range") && ck.glob f && okE ck false a e1 && okE ck false b e2 && okE ck false c e3 && plainE e1 && plainE e2 && plainE e3
  | .zip a b, .Call (.Name f _) [e1, e2] [] _ => decide (f = "zip") && ck.glob f && okE ck false a e1 && okE ck false b e2 && plainE e1 && plainE e2 && (match tg with | .tup2 _ _ => true | _ => false)
  | .enum a, .Call (.Name f _) [e1] [] _ => decide (f = "enumerate") && ck.glob f && okE ck false a e1 && plainE e1 && (match tg with | .tup2 _ _ => true | _ => false)
  | _, _ => false
end
end PLq
namespace PLq
open PySem L2
def XEp (X : Cx) (W : WX) (L : Addr) (u : Value) (s' : Shared) : Prop :=
  ∃ (a : Addr) (B : Heap) (t : Shared) (ps : List (Addr × Obj)) (σ : L2.St) (H : Hp) (c : Value) (d : Option Addr),
    u = .ref a ∧ Inv X ps σ H t ∧ (∀ b o, t.heap.get? b = some o → b ∉ frs X.stack → B.get? b = some o) ∧ t.heap.UpToSlots s'.heap ∧
      (HandSPX.FlyingZ B X.stack a (L2.Zc c d) s'.heap ∨ HandSPX.HeldZ B X.stack a (L2.Zc c d) L s'.heap) ∧ H a = none ∧ s'.os = t.os ∧ PyProof.Rows.AllBare s'.gens ∧ W c d σ H
def Fra (X : Cx) (L : Addr) : Prop := ∃ F r, X.stack = F :: r ∧ F.frame = some L ∧ X.env.frame = some L
structure Tk (X : Cx) (W : WX) : Prop where
  ex : ∃ L, Fra X L ∧ ∀ u s', XEp X W L u s' → X.xe u s'
theorem Tk.of {X : Cx} {W : WX} (hs : X.stack = X.env :: X.outer) (hf : X.env.frame = some X.env.locals) (t : L2.Takes X W) : Tk X W :=
  ⟨⟨X.env.locals, ⟨X.env, X.outer, hs, hf, hf⟩, fun u s' ⟨a, B, t', ps, σ, H, c, d, e, I, nb, up, f, r⟩ => t u s' ⟨a, B, t', ps, σ, H, c, d, e, I, nb, up, .inr f, r⟩⟩⟩
theorem Tk.none {X : Cx} {L : Addr} (f : Fra X L) : Tk X (fun _ _ _ _ => False) := ⟨⟨L, f, fun u s' ⟨a, B, t', ps, σ, H, c, d, e, I, nb, up, f, _, _, _, w⟩ => w.elim⟩⟩
theorem XEp.of_call {X : Cx} {W : WX} {E : XK} {L : Addr} {pins : List (Addr × Obj)} {σ : L2.St} {H : Hp} {s s' : Shared} (I : Inv X pins σ H s) (hW : ∀ c d H', E c d H' → W c d σ H') {u : Value} (c : L2.CX X.prog X.w X.stack H s E u s') : XEp X W L u s' := by
  obtain ⟨a, B, H', cls, d, rfl, fl, hok, ub, na, os, ag, hE⟩ := c
  obtain ⟨GG, g1, g2⟩ := restrict s'.heap fun x => (B.get? x).isSome || decide (x ∈ frs X.stack)
  have inG : ∀ b o, B.get? b = some o → GG.get? b = some o := fun b o e => (g1 b (by simp [e])).trans (fl.1 b o e)
  have ofG : ∀ b o, GG.get? b = some o → s'.heap.get? b = some o ∧ ((B.get? b).isSome = true ∨ b ∈ frs X.stack) := fun b o e => by
    cases q : ((B.get? b).isSome || decide (b ∈ frs X.stack)) with
    | false => rw [g2 b q] at e; cases e
    | true => rw [g1 b q] at e; exact ⟨e, by simpa [Bool.or_eq_true] using q⟩
  refine ⟨a, B, { s with heap := GG, gens := s'.gens, drawn := s'.drawn, toks := s'.toks }, pins, σ, H', cls, d, rfl, ?_, fun b o e hb => ?_, Heap.UpToSlots.of_keeps fun b o e => (ofG b o e).1, .inl fl, na, os, ag, hW _ _ _ hE⟩
  · refine I.call (ch := []) ⟨fun b o e n hb _ => inG b o (ub.keep b o e n hb), fun b o e n hb _ => ?_, fun b o e n _ => ub.free b o e n, fun b o e _ => ?_, ub.tups, ub.frzs, ub.tbls⟩ (hok.kept inG) ag (fun _ z => nomatch z)
    · obtain ⟨sl, q⟩ := ub.slot b o e hb
      exact ⟨sl, (g1 b (by simp [hb])).trans q⟩
    · by_cases hb : b ∈ frs X.stack
      · obtain ⟨sl, q⟩ := ub.slot b o e hb
        exact ⟨_, (g1 b (by simp [hb])).trans q⟩
      · obtain ⟨o', q⟩ := ub.there b o e hb
        exact ⟨o', inG b o' q⟩
  · obtain ⟨e', h | h⟩ := ofG b o e
    · obtain ⟨o', q⟩ := Option.isSome_iff_exists.mp h
      have z := fl.1 b o' q
      rw [e'] at z; cases z
      exact q
    · exact absurd h hb
theorem Tk.pass {X : Cx} {W : WX} (tk : Tk X W) (σ : L2.St) : PassesAt (L2.CX X.prog X.w) X σ (WE W σ) := fun _ _ _ e s' I c => by
  obtain ⟨L, _, t⟩ := tk.ex
  exact t e s' (XEp.of_call I (fun _ _ _ h => h) c)
theorem note_fr (u : Value) {e1 e2 : PySem.Env} (h : e1.frame = e2.frame) : noteFrame u e1 = noteFrame u e2 := by
  unfold noteFrame frameOf
  rw [h]
def cpX (M : Model) (A : Around) (E : Value → Shared → Prop) (use : Option (Value → Sem Unit)) (Q : Value → Shared → Prop) (acc : Value) (ce : PySem.Env) : Result → Shared → Prop
  | .ok f, t => compPost M A E use Q acc ce.locals (.ok f) t
  | .error x, t => ∃ m, t.heap.Ns ce.locals m ∧ ∀ h' m', h'.Ns ce.locals m' → Heap.SameBut ce.locals t.heap h' → wpAny M A (passOn "comprehension.variables-let-go" x ce : Sem Value) (fun _ _ => False) E { t with heap := h' }
section
variable {M : Model} {A : Around} {E : Value → Shared → Prop} {s : Shared} {env : PySem.Env}
theorem comp_x {e : Expr} {scope : Scope} {pos : Pos} {mk first : Sem Value} {g : Comprehension} {gs : List Comprehension} {cl : List (Str × Addr)} {use : Option (Value → Sem Unit)} {Q : Value → Shared → Prop}
    (hcl : clausesOf e = g :: gs) (hf : ∀ x, foldedSetIterable g.iter env x = pure x) (hc : closureFor scope env = pure cl) (hk : scope.kind = .function) (hn : ∀ x ∈ scope.names, x.2 = .local → scope.names.lookup x.1 = some .local)
    (h : wpAny M A first (fun x t1 => wpAny M A (pyIter x) (fun it t2 => wpAny M A mk (fun acc t3 => wpAny M A (newFunctionEnv scope env.globals cl [] env.qual none .none (some env)) (fun ce t4 =>
        codeAny M A (.compStart e 0 it acc { ce with scope := relabel scope env }) (cpX M A E use Q acc { ce with scope := relabel scope env }) t4) E t3) E t2) E t1) E s) :
    wpAny M A (comprehension e scope env pos mk false first use) Q E s := by
  unfold comprehension
  rw [hc, hcl]
  refine wpAny_bind (wpAny_mono h (fun x t1 h1 => ?_) fun _ _ z => z)
  refine wpAny_bind (wpAny_standAt (wpAny_bind (wpAny_of_eq (hf x) (wpAny_bind (wpAny_holding (wpAny_mono h1 (fun it t2 h2 => ?_) fun _ _ z => z))))))
  refine wpAny_standIf (wpAny_bind (wpAny_mono h2 (fun acc t3 h3 => ?_) fun _ _ z => z))
  refine wpAny_bind (wpAny_pure (wpAny_bind (wpAny_mono h3 (fun ce t4 h4 => ?_) fun _ _ z => z)))
  dsimp only
  have hv : ∀ x ∈ (scope.names.filter fun x => (x.2 == .local || x.2 == .cell) && x.1 != (".0" : Str)).reverse, x.2 = .local → Env.kindOf { ce with scope := relabel scope env } x.1 = some .local := fun x hx hl =>
    lookup_relabel_local (hn x (List.mem_filter.mp (List.mem_reverse.mp hx)).1 hl)
  refine wpAny_holding (wpAny_bind (wpAny_attempt (wpAny_holding (wpAny_run (codeAny_mono h4 fun r t hr => ?_)))))
  have hw : ∀ x ∈ (scope.names.filter fun x => (x.2 == .local || x.2 == .cell) && x.1 != (".0" : Str)).reverse.drop 1 ++ (scope.names.filter fun x => (x.2 == .local || x.2 == .cell) && x.1 != (".0" : Str)).reverse.take 1, x.2 = .local → Env.kindOf { ce with scope := relabel scope env } x.1 = some .local :=
    fun x hx hl => (List.mem_append.mp hx).elim (fun z => hv x (List.mem_of_mem_drop z) hl) fun z => hv x (List.mem_of_mem_take z) hl
  cases r with
  | ok f =>
    have hr : compPost M A E use Q acc ce.locals (.ok f) t := hr
    cases use with
    | none =>
      obtain ⟨m, n1, hr⟩ := hr
      exact wpAny_bind (wpAny_holding (wpAny_comp_letGo (cenv := { ce with scope := relabel scope env }) hk _ t m hv n1 fun h' _ _ sb => wpAny_pure (hr h' sb)))
    | some u =>
      refine wpAny_bind (wpAny_rule (wpAny_bind (wpAny_holding (wpAny_mono hr (fun _ t' ⟨m, n1, hr'⟩ => ?_) fun _ _ z => z))))
      exact wpAny_bind (wpAny_comp_letGo (cenv := { ce with scope := relabel scope env }) hk _ t' m hw n1 fun h' _ _ sb => wpAny_pure (hr' h' sb))
  | error x =>
    obtain ⟨m, n1, hr⟩ := hr
    exact wpAny_bind (wpAny_holding (wpAny_comp_letGo (cenv := { ce with scope := relabel scope env }) hk _ t m hv n1 fun h' m' n2 sb => wpAny_mono (hr h' m' n2 sb) (fun _ _ f => f.elim) fun _ _ y => y))
end
abbrev Cx.xes (X : Cx) (xe : Value → Shared → Prop) : Cx := { X with xe := xe }
section
variable {X : Cx}
theorem inv_xe {pins : List (Addr × Obj)} {σ : L2.St} {H : Hp} {s : Shared} (I : Inv X pins σ H s) (xe : Value → Shared → Prop) : Inv (Cx.xes X xe) pins σ H s :=
  ⟨⟨I.ok.mod, I.ok.kind, I.ok.glob, I.ok.blt, I.ok.above, I.ok.inj, I.ok.has, I.ok.cab, I.ok.hd, I.ok.frames, I.ok.stk, I.ok.exf, I.ok.bs, I.ok.bsz, I.ok.noex, I.ok.exfs, I.ok.funs, I.ok.frf⟩, I.os, I.bare, I.base, I.loc, I.cell, I.free, I.freeC, I.pin, I.hok, I.len⟩
theorem inv_ex {pins : List (Addr × Obj)} {σ : L2.St} {H : Hp} {s : Shared} {xe : Value → Shared → Prop} (I : Inv (Cx.xes X xe) pins σ H s) : Inv X pins σ H s :=
  ⟨⟨I.ok.mod, I.ok.kind, I.ok.glob, I.ok.blt, I.ok.above, I.ok.inj, I.ok.has, I.ok.cab, I.ok.hd, I.ok.frames, I.ok.stk, I.ok.exf, I.ok.bs, I.ok.bsz, I.ok.noex, I.ok.exfs, I.ok.funs, I.ok.frf⟩, I.os, I.bare, I.base, I.loc, I.cell, I.free, I.freeC, I.pin, I.hok, I.len⟩
theorem blk_out {W : WX} {L : Addr} {pins : List (Addr × Obj)} {σ : L2.St} {s3 : Shared} {H3 : Hp} {scope : Scope} {ce : PySem.Env} {fp : List Addr} {use : Option (Value → Sem Unit)} {Q : Value → Shared → Prop} {acc : Value} {xe : Value → Shared → Prop}
    (I3 : Inv X pins σ H3 s3) (fr : Fra X L) (tk : ∀ u s', XEp X W L u s' → X.xe u s') (hce : ce.frame = X.env.frame) (hL : ce.locals = s3.heap.objs.size)
    (f3 : ∀ b ∈ fp, FpOk X pins H3 b) (u : Value) (s' : Shared) (x : XEp (Cx.xes (X.blk s3 H3 scope ce fp) xe) (fun c d _ H => W c d σ H) L u s') :
    notedBy (model X.prog X.w) X.A ce (fun e t => cpX (model X.prog X.w) X.A X.xe use Q acc ce (.error e) t) u s' := by
  obtain ⟨a, B, t, ps, τ, H, c, d, rfl, I, nb, up, fl, na, os, ag, w⟩ := x
  obtain ⟨F, r, st, fF, fX⟩ := fr
  have hfr : X.A.frames = some (F :: r) := by rw [I3.ok.frames, st]
  have I' : Inv (X.blk s3 H3 scope ce fp) ps τ H t := inv_ex I
  have nC : H s3.heap.objs.size = none := by
    have z : H ce.locals = none := I.free
    rw [hL] at z; exact z
  have nCf : s3.heap.objs.size ∉ frs X.stack := fun hm => by
    obtain ⟨_, o, e, _⟩ := I3.stack.mem hm
    exact absurd (Heap.lt_size e) (Nat.lt_irrefl _)
  show wpAny _ X.A (noteFrame (.ref a) ce) _ _ _
  rw [note_fr (.ref a) (e2 := F) (by rw [hce, fX, fF])]
  have go : ∀ h1, HandSPX.HeldZ B X.stack a (L2.Zc c d) L h1 → s'.heap.UpToSlots h1 → cpX (model X.prog X.w) X.A X.xe use Q acc ce (.error (.ref a)) { s' with heap := h1 } := fun h1 hh up1 => by
    have J := Inv.landed (s' := { s' with heap := h1 }) I' nb hh.1 (up.trans up1) os ag
    obtain ⟨m, n1, _⟩ := J.loc
    refine ⟨m, n1, fun h2 m2 n2 sb => ?_⟩
    rw [hL] at sb
    obtain ⟨k1, k2, k3, oe, vs, T, oT, ts, he, hz, hd, e1, nT, Te, hT, hdT, e3⟩ := hh
    have n1' : h1.Ns s3.heap.objs.size m := by rw [← hL]; exact n1
    have dict : ∀ o, h1.get? s3.heap.objs.size = some o → ∀ vs, o.data ≠ .fields vs := fun o e vs z => by
      obtain ⟨o', es, ep, ho, hdd, _⟩ := n1'
      rw [e] at ho; cases ho
      rw [z] at hdd; cases hdd
    have aC : a ≠ s3.heap.objs.size := fun z => dict oe (z ▸ he) vs hd
    have TC : T ≠ s3.heap.objs.size := fun z => dict oT (z ▸ hT) ts hdT
    obtain ⟨G, g1, g2⟩ := restrict t.heap fun b => decide (b ≠ s3.heap.objs.size)
    obtain ⟨B', b1, b2⟩ := restrict B fun b => decide (b ≠ s3.heap.objs.size)
    have g1' : ∀ b, b ≠ s3.heap.objs.size → G.get? b = t.heap.get? b := fun b hb => g1 b (by simp [hb])
    have g3 : ∀ b o, G.get? b = some o → b ≠ s3.heap.objs.size ∧ t.heap.get? b = some o := fun b o e => by
      by_cases hb : b = s3.heap.objs.size
      · rw [g2 b (by simp [hb])] at e; cases e
      · rw [g1' b hb] at e; exact ⟨hb, e⟩
    have b1' : ∀ b, b ≠ s3.heap.objs.size → B'.get? b = B.get? b := fun b hb => b1 b (by simp [hb])
    have b3 : ∀ b o, B'.get? b = some o → b ≠ s3.heap.objs.size ∧ B.get? b = some o := fun b o e => by
      by_cases hb : b = s3.heap.objs.size
      · rw [b2 b (by simp [hb])] at e; cases e
      · rw [b1' b hb] at e; exact ⟨hb, e⟩
    have hbase : Un (frs X.stack) fp H3 H s3.heap t.heap := I'.base
    have ne3 : ∀ b o, s3.heap.get? b = some o → b ≠ s3.heap.objs.size := fun b o e z => absurd (Heap.lt_size e) (by rw [z]; exact Nat.lt_irrefl _)
    have JG : Inv X pins σ H { t with heap := G } := by
      refine I3.call' (ch := fp) I'.os ⟨fun b o e n hb hx => ?_, fun b o e n hb hx => ?_, hbase.free, fun b o e hx => ?_, hbase.tups, hbase.frzs, hbase.tbls⟩ (fun b o q => ?_) I'.bare fun b hb => ⟨(f3 b hb).2.2.2.1, (f3 b hb).2.1, (f3 b hb).2.2.2.2.1, (f3 b hb).2.2.2.2.2⟩
      · exact (g1' b (ne3 b o e)).trans (hbase.keep b o e n hb hx)
      · obtain ⟨sl, q⟩ := hbase.slot b o e n hb hx
        exact ⟨sl, (g1' b (ne3 b o e)).trans q⟩
      · obtain ⟨o', q⟩ := hbase.there b o e hx
        exact ⟨o', (g1' b (ne3 b o e)).trans q⟩
      · refine (I'.hok b o q).stay (fun v u hc e => (g1' v ?_).trans e) (fun _ z => z) fun _ _ z => z
        rcases hc with z | z
        · rw [z]; intro y; rw [y, nC] at q; cases q
        · intro y; rw [y, nC] at z; cases z
    have keep2 : ∀ b o, b ≠ s3.heap.objs.size → h1.get? b = some o → h2.get? b = some o := fun b o hb e => (sb.2 b hb).trans e
    have tr2 : HandSPX.TracedZ h2 B' a (L2.Zc c d) (rawInt L) := by
      refine ⟨oe, vs, T, oT, ts, keep2 a oe aC he, hz, hd, e1, ?_, Te, keep2 T oT TC hT, hdT, e3⟩
      rw [b1' T TC]; exact nT
    have ff2 : ∀ l : List PySem.Env, (∀ e ∈ l, ∀ b, e.frame = some b → b ≠ s3.heap.objs.size) → h1.FunFrames B l → h2.FunFrames B' l := by
      intro l
      induction l with
      | nil => intro _ h; exact h
      | cons e l ih =>
        intro hne h
        obtain ⟨h1', ⟨L', o, q1, q2, q3, q4⟩, h3⟩ := h
        have nl := hne e List.mem_cons_self L' q1
        exact ⟨h1', ⟨L', o, q1, by rw [b1' L' nl]; exact q2, keep2 L' o nl q3, q4⟩, ih (fun e' he' => hne e' (List.mem_cons_of_mem _ he')) h3⟩
    have hne : ∀ e ∈ X.stack, ∀ b, e.frame = some b → b ≠ s3.heap.objs.size := fun e he' b hb z => nCf (List.mem_filterMap.mpr ⟨e, he', by rw [hb, z]⟩)
    unfold passOn
    have te := tr2
    obtain ⟨oe2, vs2, T2, oT2, ts2, x1, x2, x3, x4, _⟩ := te
    refine wpAny_bind (wpAny_field x1 x3 x4 ?_)
    rw [if_neg (show ¬ ((Value.ref T2 == Value.none) = true) from by simp)]
    have fin : wpAny (model X.prog X.w) X.A (setFlight (.ref a) ce.frame) (fun _ t4 => wpAny (model X.prog X.w) X.A (throw (.ref a) : Sem Value) (fun _ _ => False) X.xe t4) X.xe { s' with heap := h2 } := by
      rw [hce, fX]
      refine HandSPX.setFlight_anyZ (s := { s' with heap := h2 }) (base := B') (l := X.stack) (fun b o e => ?_) (ff2 _ hne k3) tr2 fun h4 y1 y2 y3 y4 => wpAny_throw (tk _ _ ?_)
      · obtain ⟨z1, z2⟩ := b3 b o e
        exact keep2 b o z1 (k1 b o z2)
      · refine ⟨a, B', { t with heap := G }, pins, σ, H, c, d, rfl, JG, fun b o e hb => ?_, fun b o e hf => ?_, .inr ⟨y1, ?_, y2, y3⟩, na, os, ag, w⟩
        · obtain ⟨z1, z2⟩ := g3 b o e
          rw [b1' b z1]
          exact nb b o z2 hb
        · obtain ⟨z1, z2⟩ := g3 b o e
          obtain ⟨sl1, e1⟩ := up b o z2 hf
          obtain ⟨sl2, e2⟩ := up1 b _ e1 hf
          obtain ⟨sl3, e3⟩ := y4 b _ (keep2 b _ z1 e2) hf
          exact ⟨sl3, e3⟩
        · rw [b1' a aC]; exact k2
    first
      | exact wpAny_bind (wpAny_pure (wpAny_bind fin))
      | exact wpAny_bind fin
  rcases fl with fl | hh
  · exact HandSPX.looks_onZ L2.Zc.steady hfr fF (st ▸ fl) fun h1 hh up1 => go h1 (st ▸ hh) up1
  · exact HandSPX.againZ fF hh.2.2.2 (go s'.heap hh (Heap.UpToSlots.refl _))
theorem lcx_core {W : WX} {pins : List (Addr × Obj)} {s : Shared} {σ : L2.St} {H : Hp} {Q : VK} {elt tg iter : Expr} {ifs : List Expr} {scope : Scope} {own : List (Str × Nat)} {pos pos' : Pos} {wi : TI} {g : TG} {tt : TT} {te : WX → TE} {use : Option (Value → Sem Unit)} {Qf : Value → Shared → Prop}
    (tk : Tk X W) (hc : X.calm = true) (hN : X.N.Nodup) (I : Inv X pins σ H s) (hi : PI X tg iter wi) (ok : BlkOk X.N X.env.scope scope own)
    (hg : ∀ (s : Shared) (H : Hp) (Cc : Addr) (cl : List (Str × Addr)) (fp : List Addr), PG (X.blk s H scope (compEnvC scope cl Cc X.env) fp) tg g)
    (ht : ∀ (s : Shared) (H : Hp) (Cc : Addr) (cl : List (Str × Addr)) (fp : List Addr), PTs (X.blk s H scope (compEnvC scope cl Cc X.env) fp) ifs tt)
    (he : ∀ (s : Shared) (H : Hp) (Cc : Addr) (cl : List (Str × Addr)) (fp : List Addr) (xe : Value → Shared → Prop) (W0 : WX), Tk (Cx.xes (X.blk s H scope (compEnvC scope cl Cc X.env) fp) xe) W0 → PE (Cx.xes (X.blk s H scope (compEnvC scope cl Cc X.env) fp) xe) elt (te W0))
    (hs : ∀ x, foldedSetIterable iter X.env x = pure x) (h : tLc wi g tt (te fun c d _ H => W c d σ H) (own.map (·.2)) σ H Q)
    (hQ : ∀ D Cc t m G, Inv X pins σ G t → Q (.ref D) G → t.heap.Ns Cc m → FpOk X pins G Cc → compPost (model X.prog X.w) X.A X.xe use Qf (.ref D) Cc (.ok .next) t) :
    wpAny (model X.prog X.w) X.A (comprehension (.ListComp elt [⟨tg, iter, ifs, 0⟩] scope pos) scope X.env pos' (newList []) false (eval iter X.env) use) Qf X.xe s := by
  obtain ⟨L, fr, tk⟩ := tk.ex
  have frees : ∀ y ∈ scope.names, y.2 = .free → ∃ c, X.env.cells.lookup y.1 = some c := fun y hy e => (ok.free y hy e).elim (fun k => I.ok.has _ (.inl k)) fun k => I.ok.has _ (.inr k)
  refine comp_x rfl hs (closure_ok frees) ok.kind (fun y hy e => by rw [ok.uniq y hy, e])
    (thn (hi.run pins s σ H _ I h) fun xv t1 hx => thn hx fun itv t2 h2 => ?_)
  obtain ⟨it, fp, tn, J, H2, e, I2, T, st2, f2, q⟩ := h2
  subst e
  refine wpAny_newObj_type (newEnv_comp ?_) (by show 0 ≤ sizeLine; decide)
  generalize hD : t2.heap.objs.size = D
  have dn : H2 D = none := I2.hok.fresh (Nat.le_of_eq hD)
  obtain ⟨Wi, ⟨m0, w0⟩, turn⟩ := q D dn
  generalize e3 : ({ t2 with heap := t2.heap.push { cls := .type "list", data := .seq ([] : List Value).toArray } } : Shared) = t3
  have p3 : t3.heap = t2.heap.push { cls := .type "list", data := .seq ([] : List Value).toArray } := by rw [← e3]
  have J3 : Inv X pins σ (upd H2 D (.lst [])) t3 := by
    rw [← e3]
    refine I2.laid (t' := t2.toks) (fun b o z => Heap.get?_push_of_some _ z) (Nat.le_of_eq hD) ⟨Nat.zero_le _, [], 0, .nil, ?_⟩
    rw [← hD]
    exact Heap.get?_push_size _ rfl
  have lts : ∀ b ∈ fp, b < t2.heap.objs.size := fun b hb => let ⟨o, z, _⟩ := T.obj _ _ st2 b hb; Heap.lt_size z
  have f3 : ∀ b ∈ fp, FpOk X pins (upd H2 D (.lst [])) b ∧ b < t3.heap.objs.size := fun b hb => by
    have lt := lts b hb
    refine ⟨⟨?_, (f2 b hb).2⟩, by rw [p3, Heap.size_push]; exact Nat.lt_succ_of_lt lt⟩
    rw [upd_ne (by rw [← hD]; exact Nat.ne_of_lt lt)]
    exact (f2 b hb).1
  have st3 : tn 0 t3.heap := T.keep _ _ _ st2 fun b _ o z => by rw [p3]; exact Heap.get?_push_of_some _ z
  have J4 := block_start J3 ok hN f3
  generalize hcl : cellsFrom (t3.heap.objs.size + 1) scope.names (cloFrom X.env.cells scope.names []) = cl at J4 ⊢
  have pg := hg t3 (upd H2 D (.lst [])) t3.heap.objs.size cl fp
  have pt := ht t3 (upd H2 D (.lst [])) t3.heap.objs.size cl fp
  have pe := he t3 (upd H2 D (.lst [])) t3.heap.objs.size cl fp
  show codeAny _ _ (.compStart (.ListComp elt [⟨tg, iter, ifs, 0⟩] scope pos) 0 (.ref it) (.ref D) (compEnvC scope cl t3.heap.objs.size X.env)) (cpX (model X.prog X.w) X.A X.xe use Qf (.ref D) (compEnvC scope cl t3.heap.objs.size X.env)) { t3 with heap := pushCells (t3.heap.push { cls := .type "dict", data := .dict #[] }) scope.names }
  have nfp : ∀ b ∈ fp, (upd H2 D (.lst [])) b = none := fun b hb => (f3 b hb).1.1
  have hfr : (compEnvC scope cl t3.heap.objs.size X.env).frame = X.env.frame := rfl
  have cL : (compEnvC scope cl t3.heap.objs.size X.env).locals = t3.heap.objs.size := rfl
  generalize compEnvC scope cl t3.heap.objs.size X.env = ce at J4 pg pt pe hfr cL ⊢
  generalize upd H2 D (.lst []) = H3 at J3 J4 pg pt pe w0 nfp f3
  generalize e4 : ({ t3 with heap := pushCells (t3.heap.push { cls := .type "dict", data := .dict #[] }) scope.names } : Shared) = t4 at J4 ⊢
  have st4 : tn 0 t4.heap := T.keep _ _ _ st3 fun b _ o z => by rw [← e4]; exact pushCells_keeps _ _ _ _ (Heap.get?_push_of_some _ z)
  have stat : ∀ {τ : L2.St} {G : Hp} {t : Shared}, Inv (X.blk t3 H3 scope ce fp) [] τ G t → (∀ b ∈ fp, G b = none) → ∀ b ∈ fp, FpOk (X.blk t3 H3 scope ce fp) [] G b := fun {τ G t} I' hn b hb =>
    ⟨hn b hb, (I'.ok.exf b hb).1, I'.ok.exfs b hb, .inl hb, fun x c z => (I'.ok.exf b hb).2 x c z, fun p hp => absurd (show p ∈ ([] : List (Addr × Obj)) ++ [] from hp) (by simp)⟩
  have loop : codeAny (model X.prog X.w) X.A (.compLoop (.ListComp elt [⟨tg, iter, ifs, 0⟩] scope pos) 0 (.ref it) (.ref D) ce) (cpX (model X.prog X.w) X.A X.xe use Qf (.ref D) ce) t4 := by
    refine compLoop_any (fun n t => ∃ i G, Inv (X.blk t3 H3 scope ce fp) [] (wipe σ (own.map (·.2))) G t ∧ tn i t.heap ∧ (∀ b ∈ fp, G b = none) ∧ Wi i n G) ?_ m0 ⟨0, H3, J4, st4, nfp, w0⟩
    rintro n t5 ⟨i, H5, J5, st5, n5, w5⟩
    rcases turn i n H5 w5 with ⟨stop, qq⟩ | ⟨gon, Nx, hNx, step⟩
    · refine thnF (T.done (X.blk t3 H3 scope ce fp) rfl rfl rfl hc i [] t5 _ H5 (fun _ _ => False) J5 (stat J5 n5) st5 stop) fun r t6 ⟨hr, J6⟩ => ?_
      subst hr
      have J7 : Inv X pins σ H5 t6 := J3.call' (ch := fp) J6.os J6.base J6.hok J6.bare fun b hb => ⟨(f3 b hb).1.2.2.2.1, (f3 b hb).1.2.1, (f3 b hb).1.2.2.2.2.1, (f3 b hb).1.2.2.2.2.2⟩
      have nC : H5 t3.heap.objs.size = none := by
        have z : H5 ce.locals = none := J6.free
        rw [cL] at z; exact z
      obtain ⟨m, hn, _⟩ := J6.loc
      have hn : t6.heap.Ns ce.locals m := hn
      show compPost _ _ _ _ _ _ ce.locals (.ok .next) t6
      rw [cL] at hn ⊢
      exact hQ D t3.heap.objs.size t6 m H5 J7 qq hn (J3.fpOk (Nat.le_refl _) nC)
    · refine thnF (T.item (X.blk t3 H3 scope ce fp) rfl rfl rfl hc i [] t5 _ H5 (fun _ _ => False) J5 (stat J5 n5) st5 gon) fun r t6 ⟨u, hr, h6⟩ => ?_
      subst hr
      refine thnF h6 fun _ t7 ⟨x, H7, J7, r7, y7, st7, n7⟩ => ?_
      have J7' := J7.pinned (stat J7 n7) (T.obj _ _ st7)
      refine thnF (pg.run _ t7 _ H7 x u _ J7' r7 (step x H7 y7)) fun _ t8 ⟨σ8, H8, J8, hw8, q8⟩ => ?_
      refine thnF (pt.run _ t8 σ8 H8 _ J8 q8) fun b t9 ⟨H9, J9, q9⟩ => ?_
      have fin : ∀ {t : Shared} {G : Hp}, Inv (X.blk t3 H3 scope ce fp) ([] ++ pinsAt fp t7.heap) σ8 G t → Nx G → ∃ m, m < n ∧ ∃ i G, Inv (X.blk t3 H3 scope ce fp) [] (wipe σ (own.map (·.2))) G t ∧ tn i t.heap ∧ (∀ b ∈ fp, G b = none) ∧ Wi i m G := fun {t G} I' nx => by
        obtain ⟨m', hm, w'⟩ := hNx G nx
        have pin : ∀ b ∈ fp, ∀ o, t7.heap.get? b = some o → t.heap.get? b = some o ∧ G b = none := fun b hb o z =>
          let y := I'.pin (b, o) (List.mem_append_right _ (List.mem_append_right _ (mem_pinsAt hb z)))
          ⟨y.1, y.2.1⟩
        refine ⟨m', hm, i + 1, G, (I'.unpinned (pins := [])).weak (by rw [← hw8, wipe_length]) (fun j v z => by rw [← hw8] at z; exact (wipe_some z).1), T.keep _ _ _ st7 fun b hb o z => (pin b hb o z).1, fun b hb => ?_, w'⟩
        obtain ⟨o, z, _⟩ := T.obj _ _ st7 b hb
        exact (pin b hb o z).2
      cases b with
      | false =>
        simp only [Bool.false_eq_true, if_false] at q9 ⊢
        exact fin J9 q9
      | true =>
        simp only [if_true] at q9 ⊢
        have tk0 : Tk (Cx.xes (X.blk t3 H3 scope ce fp) (notedBy (model X.prog X.w) X.A ce fun e t => cpX (model X.prog X.w) X.A X.xe use Qf (.ref D) ce (.error e) t)) (fun c d _ H => W c d σ H) :=
          ⟨⟨L, by obtain ⟨F, r, a1, a2, a3⟩ := fr; exact ⟨F, r, a1, a2, hfr.trans a3⟩, fun u s' x => blk_out J3 fr tk hfr cL (fun b hb => (f3 b hb).1) u s' x⟩⟩
        refine wpAny_mono ((pe _ _ tk0).run _ t9 σ8 H9 _ (inv_xe J9 _) q9) (fun z t10 ⟨yv, H10, J10, r10, acc, hD10, hz10, nx⟩ => ?_) (fun _ _ z => z)
        exact wpAny_mono (app_ok (E := fun _ _ => False) (X := X.blk t3 H3 scope ce fp) (inv_ex J10) hD10 hz10 r10 fun t11 J11 => fin J11 nx) (fun _ _ z => z) fun _ _ z => z.elim
  exact codeAny_compStart_list loop (T.self X.A 0 _ _ _ st4 loop)
theorem pe_lcx {W : WX} {elt tg iter : Expr} {ifs : List Expr} {scope : Scope} {own : List (Str × Nat)} {pos : Pos} {wi : TI} {g : TG} {tt : TT} {te : WX → TE}
    (tk : Tk X W) (hc : X.calm = true) (hN : X.N.Nodup) (hi : PI X tg iter wi) (ok : BlkOk X.N X.env.scope scope own)
    (hg : ∀ (s : Shared) (H : Hp) (Cc : Addr) (cl : List (Str × Addr)) (fp : List Addr), PG (X.blk s H scope (compEnvC scope cl Cc X.env) fp) tg g)
    (ht : ∀ (s : Shared) (H : Hp) (Cc : Addr) (cl : List (Str × Addr)) (fp : List Addr), PTs (X.blk s H scope (compEnvC scope cl Cc X.env) fp) ifs tt)
    (he : ∀ (s : Shared) (H : Hp) (Cc : Addr) (cl : List (Str × Addr)) (fp : List Addr) (xe : Value → Shared → Prop) (W0 : WX), Tk (Cx.xes (X.blk s H scope (compEnvC scope cl Cc X.env) fp) xe) W0 → PE (Cx.xes (X.blk s H scope (compEnvC scope cl Cc X.env) fp) xe) elt (te W0))
    (hs : ∀ x, foldedSetIterable iter X.env x = pure x) : PE X (.ListComp elt [⟨tg, iter, ifs, 0⟩] scope pos) fun σ H Q => tLc wi g tt (te fun c d _ H' => W c d σ H') (own.map (·.2)) σ H Q := by
  refine ⟨fun pins s σ H Q I h => ?_⟩
  rw [eval_ListComp]
  refine lcx_core (use := none) (Qf := EP X pins σ Q) tk hc hN I hi ok hg ht he hs h fun D Cc t m G J q hn f => ⟨m, hn, fun h6 sb => ?_⟩
  obtain ⟨y0, y1, y2, y3, y4, y5⟩ := f
  exact ⟨.ref D, G, J.turned (t' := t.toks) (fun b o hb z => (sb.2 b hb).trans z) y0 y1 y3 y4 y5, rfl, q⟩
theorem ps_setLcx {W : WX} {i : Nat} {y : Str} {py : Pos} {elt tg iter : Expr} {ifs : List Expr} {scope : Scope} {own : List (Str × Nat)} {pos spos : Pos} {wi : TI} {g : TG} {tt : TT} {te : WX → TE}
    (tk : Tk X W) (hc : X.calm = true) (hN : X.N.Nodup) (hy : X.N[i]? = some y) (hyl : X.env.scope.names.lookup y = some .local)
    (hsw : swapsWith (.ListComp elt [⟨tg, iter, ifs, 0⟩] scope pos) (some (.Name y py)) spos.line X.env = pure true) (hi : PI X tg iter wi) (ok : BlkOk X.N X.env.scope scope own)
    (hg : ∀ (s : Shared) (H : Hp) (Cc : Addr) (cl : List (Str × Addr)) (fp : List Addr), PG (X.blk s H scope (compEnvC scope cl Cc X.env) fp) tg g)
    (ht : ∀ (s : Shared) (H : Hp) (Cc : Addr) (cl : List (Str × Addr)) (fp : List Addr), PTs (X.blk s H scope (compEnvC scope cl Cc X.env) fp) ifs tt)
    (he : ∀ (s : Shared) (H : Hp) (Cc : Addr) (cl : List (Str × Addr)) (fp : List Addr) (xe : Value → Shared → Prop) (W0 : WX), Tk (Cx.xes (X.blk s H scope (compEnvC scope cl Cc X.env) fp) xe) W0 → PE (Cx.xes (X.blk s H scope (compEnvC scope cl Cc X.env) fp) xe) elt (te W0))
    (hs : ∀ x, foldedSetIterable iter X.env x = pure x) :
    PS X (.Assign [.Name y py] (.ListComp elt [⟨tg, iter, ifs, 0⟩] scope pos) spos) (tAsg (fun σ H Q => tLc wi g tt (te fun c d _ H' => W c d σ H') (own.map (·.2)) σ H Q) (gName i)) := by
  refine ⟨fun pins s σ H D I h => ?_⟩
  rw [exec_Assign_Name_used _ _ _ _ hsw]
  refine wpAny_bind (wpAny_standAt (wpAny_bind ?_))
  show wpAny _ X.A (do let _ ← comprehension (.ListComp elt [⟨tg, iter, ifs, 0⟩] scope pos) scope X.env (firstIterPos [⟨tg, iter, ifs, 0⟩] pos) (newList []) false (eval iter X.env) (some (assign (.Name y py) X.env))) _ _ s
  have h : tLc wi g tt (te fun c d _ H' => W c d σ H') (own.map (·.2)) σ H (fun x H1 => gName i x σ H1 D.nx) := h
  refine wpAny_bind (wpAny_mono (lcx_core (Qf := fun _ t => SP X pins D .next t) tk hc hN I hi ok hg ht he hs h fun A Cc t m G J q hn f => ?_) (fun _ t hq => wpAny_pure (wpAny_pure hq)) fun _ _ z => z)
  show wpAny _ _ (assign (.Name y py) X.env (.ref A)) _ _ _
  obtain ⟨y0, y1, y2, y3, y4, y5⟩ := f
  refine wpAny_assign_Name (store_ok2 (v := V.ref A) J hN hy (.inl hyl) rfl (fun t2 J2 ⟨a, sb, ha⟩ => ?_) (.inr hyl))
  have neq : Cc ≠ a := by
    rcases ha with z | z
    · rw [z]; exact y1
    · exact fun e => y4 y a z e.symm
  exact ⟨m, hn.sameBut sb neq, fun h3 sb3 => ⟨_, G, J2.turned (t' := t2.toks) (fun b o hb z => (sb3.2 b hb).trans z) y0 y1 y3 y4 y5, q⟩⟩
end
end PLq
namespace PLq
open PySem L2
def fnames : List Str := ["len", "all", "sum", "tuple", "list", "max", "min", "int", "str", "isinstance", "range", "zip", "enumerate", "bool", "sorted", "dict", "set"]
structure XOk (X : Cx) (ck : Ck) (ec : Ex → Addr) (W : WX) (Γ : Tbl) (C : Cns) : Prop where
  N : X.N = ck.N
  sc : X.env.scope = ck.sc
  nd : X.N.Nodup
  calm : X.calm = true
  units : X.A.units + 65 < cLine
  fs : Γ.map (·.1) = ck.fs
  fn : ∀ (n : Nat) (p : Str × (List D → Res D)), Γ[n]? = some p → FnAt X ec p.1 p.2
  cs : C.map (·.1) = ck.cs
  cn : ∀ (n : Nat) (p : Str × D), C[n]? = some p → ∃ u v, X.mg p.1 = some u ∧ RelV v u ∧ ∀ H, Rep X.KK H v p.2
  free : ∀ x ∈ fnames, X.mg x = none
  tk : Tk X W
theorem star_plain {e : Expr} (h : plainE e = true) (es : List Expr) (env : PySem.Env) : starEach (e :: es) env = (false, eval e env) :: starEach es env := by
  cases e <;> first | rfl | cases h
theorem star_any (pos : Pos) (env : PySem.Env) : ∀ {es : List Expr}, (es.all plainE) = true → (backTo pos (starEach es env)).any (·.1) = false
  | [], _ => rfl
  | e :: es, h => by
    simp only [List.all_cons, Bool.and_eq_true] at h
    rw [star_plain h.1]
    have ih := star_any pos env h.2
    simp only [backTo, List.map_cons, List.any_cons, Bool.false_or] at ih ⊢
    exact ih
theorem noBehind {e : Expr} (h : plainE e = true) (op : CmpOp) : behindInMarks op e = false := by
  cases e <;> first | rfl | cases h
theorem plainIx {e : Expr} (h : plainE e = true) : PlainIx e := by
  intro o i
  cases e <;> first | rfl | cases h
theorem noSl {e : Expr} (h : plainE e = true) : NoSl e := by
  cases e <;> first | (intro o i; rfl) | cases h | (unfold NoSl; intros; rfl)
theorem folded {e : Expr} (h : plainE e = true) (env : PySem.Env) : ∀ x, foldedSetIterable e env x = pure x := by
  intro x
  cases e <;> first | rfl | cases h
theorem base_plain {e : Expr} (h : baseOk e = true) (a : Str) (env : PySem.Env) (w : Sem Value) : attributeBase e a env w = w := by
  cases e with
  | Call f es ks pos =>
    cases f with
    | Name id p =>
      cases es with
      | nil =>
        cases ks with
        | nil => cases h
        | cons _ _ => rfl
      | cons _ _ => rfl
    | _ => rfl
  | _ => rfl
section
variable {X : Cx} {ck : Ck} {ec : Ex → Addr} {W : WX} {Γ : Tbl} {C : Cns}
theorem XOk.gl (h : XOk X ck ec W Γ C) {x : Str} (g : ck.glob x = true) : Gl X x ∧ (x == ("__debug__" : Str)) = false ∧ x ≠ "__name__" := by
  simp only [Ck.glob, Bool.and_eq_true, decide_eq_true_eq, Bool.not_eq_true'] at g
  refine ⟨?_, g.1.2, fun e => ?_⟩
  · show X.env.scope.names.lookup x = _
    rw [h.sc]; exact g.1.1
  · rw [e] at g
    exact absurd g.2 (by decide)
theorem XOk.var (h : XOk X ck ec W Γ C) {i : Nat} {x : Str} {pos : Pos} (s : ck.slot i x = true) : PE X (.Name x pos) (tVar i) := by
  simp only [Ck.slot, Bool.and_eq_true, decide_eq_true_eq, Bool.not_eq_true'] at s
  obtain ⟨⟨⟨s1, s2⟩, s3⟩, s4⟩ := s
  refine pe_var (by rw [h.N]; exact s1) ?_ s3 s4
  unfold Vis
  rw [h.sc]
  cases q : ck.sc.names.lookup x with
  | none => rw [q] at s2; cases s2
  | some k => rw [q] at s2; cases k <;> first | exact .inl rfl | exact .inr (.inl rfl) | exact .inr (.inr rfl) | cases s2
def tM (m : Bool) (K : KK) (lin : List Nat) (W : Wsh) (f : PLq.Env → Res D) : TE := if m = true then tB K lin W f else tE K lin W f
theorem tM_tE {m : Bool} {K : KK} {lin : List Nat} {W : Wsh} {f : PLq.Env → Res D} {σ : L2.St} {H : Hp} {Q : VK} (h : tM m K lin W f σ H Q) : tE K lin W f σ H Q := by
  cases m with
  | true => exact tB_tE h
  | false => exact h
theorem PE.md {m : Bool} {e : Expr} {lin : List Nat} {W : Wsh} {f : PLq.Env → Res D} (h : PE X e (tE X.KK lin W f)) : PE X e (tM m X.KK lin W f) := h.imp fun _ _ _ => tM_tE
section
variable {K : KK} {lin : List Nat} {W : Wsh} {σ : L2.St} {H : Hp} {Q : VK}
theorem const_E {d : D} {v : V} (r : ∀ H, Rep K H v d) (h : tE K lin W (fun _ => .ok d) σ H Q) : tC v σ H Q := by
  obtain ⟨own, ρ, G, p⟩ := h
  exact p v H (Same.refl _) (r _)
theorem var_E {i : Nat} (hl : lin.contains i = false) (h : tE K lin W (fun ρ => match ρ[i]? with | some (some d) => .ok d | _ => .stuck) σ H Q) : tVar i σ H Q := by
  obtain ⟨own, ρ, G, p⟩ := h
  cases q : ρ[i]? with
  | none => simp only [q] at p; exact p.elim
  | some o =>
    cases o with
    | none => simp only [q] at p; exact p.elim
    | some d =>
      simp only [q] at p
      have hn : i ∉ lin := fun z => by
        have := List.contains_iff_mem.mpr z
        rw [hl] at this; cases this
      obtain ⟨v, h1, h2⟩ := G.val i d q hn
      exact ⟨v, h1, p v H (Same.refl _) h2⟩
theorem lvar_B {i : Nat} (hl : lin.contains i = true) (h : tB K lin W (fun ρ => match ρ[i]? with | some (some d) => .ok d | _ => .stuck) σ H Q) : tVar i σ H Q := by
  obtain ⟨own, ρ, G, p⟩ := h
  cases q : ρ[i]? with
  | none => simp only [q] at p; exact p.elim
  | some o =>
    cases o with
    | none => simp only [q] at p; exact p.elim
    | some d =>
      simp only [q] at p
      obtain ⟨a, ob, h1, h2, h3, h4⟩ := G.lob i d q (List.contains_iff_mem.mp hl)
      exact ⟨_, h1, p _ H (Same.refl _) (.lin rfl h2 h3 h4)⟩
theorem tst_E {f : PLq.Env → Res D} {g : PLq.Env → Bool → Res D} (h : tE K lin W (fun ρ => tst (f ρ) (g ρ)) σ H Q) : tE K lin W f σ H fun x H1 => ∃ c, x = .bl c ∧ tE K lin W (fun ρ => g ρ c) σ H1 Q := by
  obtain ⟨own, ρ, G, p⟩ := h
  refine stepE G (fun d v H1 q s r => ?_) (fun e H1 q s => ?_) fun q => ?_
  · simp only [tst, q, Res.bind] at p
    cases d with
    | bl b =>
      cases r
      refine ⟨b, rfl, own, ρ, G.mono s, ?_⟩
      have p : postE K W own σ H Q (g ρ b) := p
      show postE K W own σ H1 Q (g ρ b)
      cases z : g ρ b with
      | ok d => rw [z] at p; exact fun v H' s' r => p v H' (s.trans s') r
      | exc e => rw [z] at p; exact fun H' s' => p H' (s.trans s')
      | stuck => rw [z] at p; exact p
    | _ => exact p.elim
  · simp only [tst, q, Res.bind] at p
    exact p H1 s
  · simp only [tst, q, Res.bind] at p
    exact p
theorem bl_E {f : PLq.Env → Res D} (h : tE K lin W (fun ρ => tst (f ρ) fun k => .ok (.bl k)) σ H Q) : tE K lin W f σ H Q := by
  obtain ⟨own, ρ, G, p⟩ := h
  refine stepE G (fun d v H1 q s r => ?_) (fun e H1 q s => ?_) fun q => ?_
  · simp only [tst, q, Res.bind] at p
    cases d with
    | bl b => exact p v H1 s r
    | _ => exact p.elim
  · simp only [tst, q, Res.bind] at p
    exact p H1 s
  · simp only [tst, q, Res.bind] at p
    exact p
theorem not_E {f : PLq.Env → Res D} (h : tE K lin W (fun ρ => tst (f ρ) fun k => .ok (.bl (!k))) σ H Q) : tNotV (tE K lin W f) σ H Q := by
  obtain ⟨own, ρ, G, p⟩ := h
  refine stepE G (fun d v H1 q s r => ?_) (fun e H1 q s => ?_) fun q => ?_
  · simp only [tst, q, Res.bind] at p
    cases d with
    | bl b => cases r; exact ⟨b, rfl, p _ H1 s (.bl _)⟩
    | _ => exact p.elim
  · simp only [tst, q, Res.bind] at p
    exact p H1 s
  · simp only [tst, q, Res.bind] at p
    exact p
theorem and_E {f g : PLq.Env → Res D} (h : tE K lin W (fun ρ => tst (f ρ) fun k => if k then tst (g ρ) fun k2 => .ok (.bl k2) else .ok (.bl false)) σ H Q) : tAndV (tE K lin W f) (tE K lin W g) σ H Q := by
  have h2 := tst_E h
  obtain ⟨own, ρ, G, p⟩ := h2
  refine ⟨own, ρ, G, ?_⟩
  cases q : f ρ with
  | ok d =>
    rw [q] at p
    intro v H' s r
    obtain ⟨c, e, h3⟩ := p v H' s r
    refine ⟨c, e, ?_⟩
    cases c with
    | true => exact bl_E h3
    | false =>
      obtain ⟨own2, ρ2, G2, p2⟩ := h3
      exact p2 _ _ (Same.refl _) (.bl _)
  | exc e => rw [q] at p; exact p
  | stuck => rw [q] at p; exact p
theorem or_E {f g : PLq.Env → Res D} (h : tE K lin W (fun ρ => tst (f ρ) fun k => if k then .ok (.bl true) else tst (g ρ) fun k2 => .ok (.bl k2)) σ H Q) : tOrV (tE K lin W f) (tE K lin W g) σ H Q := by
  have h2 := tst_E h
  obtain ⟨own, ρ, G, p⟩ := h2
  refine ⟨own, ρ, G, ?_⟩
  cases q : f ρ with
  | ok d =>
    rw [q] at p
    intro v H' s r
    obtain ⟨c, e, h3⟩ := p v H' s r
    refine ⟨c, e, ?_⟩
    cases c with
    | true =>
      obtain ⟨own2, ρ2, G2, p2⟩ := h3
      exact p2 _ _ (Same.refl _) (.bl _)
    | false => exact bl_E h3
  | exc e => rw [q] at p; exact p
  | stuck => rw [q] at p; exact p
theorem tT_tB {f : PLq.Env → Res D} {Q : Bool → Hp → Prop} (h : tT K lin W f σ H Q) : L2.tB (tE K lin W f) σ H Q := by
  obtain ⟨own, ρ, G, p⟩ := h
  refine ⟨own, ρ, G, ?_⟩
  cases q : f ρ with
  | ok d =>
    rw [q] at p
    cases d with
    | bl b => intro v H' s r; cases r; exact ⟨b, rfl, p H' s⟩
    | _ => exact p.elim
  | exc e => rw [q] at p; exact p
  | stuck => rw [q] at p; exact p
theorem tst_T {f : PLq.Env → Res D} {g : PLq.Env → Bool → Res D} {Q : Bool → Hp → Prop} (h : tT K lin W (fun ρ => tst (f ρ) (g ρ)) σ H Q) : tT K lin W f σ H fun c H1 => tT K lin W (fun ρ => g ρ c) σ H1 Q := by
  obtain ⟨own, ρ, G, p⟩ := h
  refine ⟨own, ρ, G, ?_⟩
  cases q : f ρ with
  | ok d =>
    simp only [tst, q, Res.bind] at p
    cases d with
    | bl b =>
      intro H1 s
      refine ⟨own, ρ, G.mono s, ?_⟩
      have p : postT K W own σ H Q (g ρ b) := p
      show postT K W own σ H1 Q (g ρ b)
      cases z : g ρ b with
      | ok d =>
        rw [z] at p
        cases d with
        | bl k => exact fun H' s' => p H' (s.trans s')
        | _ => exact p.elim
      | exc e => rw [z] at p; exact fun H' s' => p H' (s.trans s')
      | stuck => rw [z] at p; exact p
    | _ => exact p.elim
  | exc e =>
    simp only [tst, q, Res.bind] at p
    exact p
  | stuck =>
    simp only [tst, q, Res.bind] at p
    exact p
theorem bl_T {f : PLq.Env → Res D} {Q : Bool → Hp → Prop} (h : tT K lin W (fun ρ => tst (f ρ) fun k => .ok (.bl k)) σ H Q) : tT K lin W f σ H Q := by
  obtain ⟨own, ρ, G, p⟩ := h
  refine ⟨own, ρ, G, ?_⟩
  cases q : f ρ with
  | ok d =>
    simp only [tst, q, Res.bind] at p
    cases d with
    | bl b => exact p
    | _ => exact p.elim
  | exc e =>
    simp only [tst, q, Res.bind] at p
    exact p
  | stuck =>
    simp only [tst, q, Res.bind] at p
    exact p
theorem okb_T {b : Bool} {Q : Bool → Hp → Prop} (h : tT K lin W (fun _ => .ok (.bl b)) σ H Q) : Q b H := by
  obtain ⟨own, ρ, G, p⟩ := h
  exact p H (Same.refl _)
end
end
end PLq
namespace PLq
open PySem L2
section
variable {K : KK} {lin : List Nat} {W : Wsh} {σ : L2.St} {H : Hp} {Q : VK}
def postAB (K : KK) (W : Wsh) (own : List Addr) (σ : L2.St) (H : Hp) (Q : List V → Hp → Prop) : Res (List D) → Prop
  | .ok ds => ∀ vs H', Same H H' → RepBs K own H' vs ds → Q vs H'
  | .exc e => ∀ H', Same H H' → W e σ H'
  | .stuck => False
def tAB (K : KK) (lin : List Nat) (W : Wsh) (f : PLq.Env → Res (List D)) : TA := fun σ H Q => ∃ own ρ, Gd K own lin σ H ρ ∧ postAB K W own σ H Q (f ρ)
theorem nil_A {Q : List V → Hp → Prop} (h : tAs K lin W (fun _ => .ok []) σ H Q) : tNil σ H Q := by
  obtain ⟨own, ρ, G, p⟩ := h
  exact p [] H (Same.refl _) .nil
theorem nil_AB {Q : List V → Hp → Prop} (h : tAB K lin W (fun _ => .ok []) σ H Q) : tNil σ H Q := by
  obtain ⟨own, ρ, G, p⟩ := h
  exact p [] H (Same.refl _) .nil
theorem cons_A {f : PLq.Env → Res D} {g : PLq.Env → Res (List D)} {Q : List V → Hp → Prop} (h : tAs K lin W (fun ρ => (f ρ).bind fun x => (g ρ).bind fun xs => .ok (x :: xs)) σ H Q) :
    tCons (tE K lin W f) (tAs K lin W g) σ H Q := by
  obtain ⟨own, ρ, G, p⟩ := h
  refine stepE G (fun d v H1 q s r => ?_) (fun e H1 q s => ?_) fun q => ?_
  · simp only [q, Res.bind] at p
    refine stepA (G.mono s) (fun ds vs H2 q2 s2 r2 => ?_) (fun e H2 q2 s2 => ?_) fun q2 => ?_
    · simp only [q2, Res.bind] at p
      exact p _ H2 (s.trans s2) (.cons (r.mono (hid_same s2)) r2)
    · simp only [q2, Res.bind] at p
      exact p H2 (s.trans s2)
    · simp only [q2, Res.bind] at p
      exact p
  · simp only [q, Res.bind] at p
    exact p H1 s
  · simp only [q, Res.bind] at p
    exact p
theorem stepAB {f : PLq.Env → Res (List D)} {own : List Addr} {ρ : PLq.Env} {Q : List V → Hp → Prop} (G : Gd K own lin σ H ρ) (ok : ∀ d v H1, f ρ = .ok d → Same H H1 → RepBs K own H1 v d → Q v H1) (ex : ∀ e H1, f ρ = .exc e → Same H H1 → W e σ H1) (st : f ρ ≠ .stuck) : tAB K lin W f σ H Q := by
  refine ⟨own, ρ, G, ?_⟩
  cases q : f ρ with
  | ok d => exact fun v H' s r => ok d v H' q s r
  | exc e => exact fun H' s => ex e H' q s
  | stuck => exact st q
theorem cons_AB {f : PLq.Env → Res D} {g : PLq.Env → Res (List D)} {Q : List V → Hp → Prop} (h : tAB K lin W (fun ρ => (f ρ).bind fun x => (g ρ).bind fun xs => .ok (x :: xs)) σ H Q) :
    tCons (tB K lin W f) (tAB K lin W g) σ H Q := by
  obtain ⟨own, ρ, G, p⟩ := h
  refine stepB G (fun d v H1 q s r => ?_) (fun e H1 q s => ?_) fun q => ?_
  · simp only [q, Res.bind] at p
    refine stepAB (G.mono s) (fun ds vs H2 q2 s2 r2 => ?_) (fun e H2 q2 s2 => ?_) fun q2 => ?_
    · simp only [q2, Res.bind] at p
      exact p _ H2 (s.trans s2) (.cons (r.mono s2) r2)
    · simp only [q2, Res.bind] at p
      exact p H2 (s.trans s2)
    · simp only [q2, Res.bind] at p
      exact p
  · simp only [q, Res.bind] at p
    exact p H1 s
  · simp only [q, Res.bind] at p
    exact p
theorem tup_E {f : PLq.Env → Res (List D)} (h : tE K lin W (fun ρ => (f ρ).bind fun ds => if ds.length ≤ szL then .ok (.tup ds) else .stuck) σ H Q) : tTupF (tAs K lin W f) σ H Q := by
  obtain ⟨own, ρ, G, p⟩ := h
  refine stepA G (fun ds vs H1 q s r => ?_) (fun e H1 q s => ?_) fun q => ?_
  · simp only [q, Res.bind] at p
    by_cases hl : ds.length ≤ szL
    · rw [if_pos hl] at p
      refine ⟨by rw [r.length, ← szL_eq]; exact hl, fun x o hx ho => ?_⟩
      obtain ⟨s2, r2⟩ := Rep.new_tup (G.mono s).trk hx ho r
      exact p _ _ (s.trans s2) r2
    · rw [if_neg hl] at p; exact p.elim
  · simp only [q, Res.bind] at p
    exact p H1 s
  · simp only [q, Res.bind] at p
    exact p
def postF (K : KK) (W : Wsh) (own : List Addr) (σ : L2.St) (H : Hp) (Q : VK) : Res D → Prop
  | .ok d => ∀ a o H' H2, Same H H' → H' a = none → H2 = upd H' a o → RepO K (hid own H') a o d → Q (.ref a) H2
  | .exc e => ∀ H', Same H H' → W e σ H'
  | .stuck => False
def tF (K : KK) (lin : List Nat) (W : Wsh) (f : PLq.Env → Res D) : TE := fun σ H Q => ∃ own ρ, Gd K own lin σ H ρ ∧ postF K W own σ H Q (f ρ)
theorem tF_tE {f : PLq.Env → Res D} (h : tE K lin W f σ H Q) : tF K lin W f σ H Q := by
  obtain ⟨own, ρ, G, p⟩ := h
  refine ⟨own, ρ, G, ?_⟩
  cases q : f ρ with
  | ok d =>
    rw [q] at p
    intro a o H' H2 s hn e r
    subst e
    exact p _ _ (s.trans (same_upd hn)) ((r.mono (hid_same_upd hn)).rep (hid_of (own_ne (G.mono s).trk hn) upd_same))
  | exc e => rw [q] at p; exact p
  | stuck => rw [q] at p; exact p
theorem lst_F {f : PLq.Env → Res (List D)} (h : tF K lin W (fun ρ => (f ρ).bind fun ds => if ds.length ≤ szL then .ok (.lst ds) else .stuck) σ H Q) : tLst (tAs K lin W f) σ H Q := by
  obtain ⟨own, ρ, G, p⟩ := h
  refine stepA G (fun ds vs H1 q s r => ?_) (fun e H1 q s => ?_) fun q => ?_
  · simp only [q, Res.bind] at p
    by_cases hl : ds.length ≤ szL
    · rw [if_pos hl] at p
      exact ⟨by rw [r.length, ← szL_eq]; exact hl, fun x hx => p _ _ _ _ s hx rfl (.lst r)⟩
    · rw [if_neg hl] at p; exact p.elim
  · simp only [q, Res.bind] at p
    exact p H1 s
  · simp only [q, Res.bind] at p
    exact p
theorem dnew_F (h : tF K lin W (fun _ => .ok (.dk [])) σ H Q) : tDNewK σ H Q := by
  obtain ⟨own, ρ, G, p⟩ := h
  exact fun x hx => p _ _ _ _ (Same.refl _) hx rfl (.dk .nil)
theorem dnewT_F (h : tF K lin W (fun _ => .ok (.dkT [])) σ H Q) : tDNewR K.P K.w σ H Q := by
  obtain ⟨own, ρ, G, p⟩ := h
  exact fun x hx => p _ _ _ _ (Same.refl _) hx rfl (.dkT .nil)
theorem dget_E {f g : PLq.Env → Res D} (h : tE K lin W (fun ρ => (f ρ).bind fun x => (g ρ).bind fun y => match x with | .dk kvs => ofO (dget kvs y) | _ => .stuck) σ H Q) : tDGet (tB K lin W f) (tE K lin W g) σ H Q := by
  obtain ⟨own, ρ, G, p⟩ := h
  refine stepB G (fun d x H1 q1 s1 r1 => ?_) (fun e H1 q s => ?_) fun q => ?_
  · simp only [q1, Res.bind] at p
    refine stepE (G.mono s1) (fun e y H2 q2 s2 r2 => ?_) (fun e H2 q2 s2 => ?_) fun q2 => ?_
    · simp only [q2, Res.bind] at p
      cases d with
      | dk kvs =>
        simp only at p
        cases z : dget kvs e with
        | none => rw [z] at p; exact p.elim
        | some w =>
          rw [z] at p
          have hk : (keyD e).isSome = true := by
            unfold dget at z
            split at z
            · rename_i k hk; rw [hk]; rfl
            · cases z
          obtain ⟨a, o, rfl, gg, hh⟩ := dk_get (.safe r2) (r1.mono s2) hk
          rcases hh with ⟨h1, h2⟩ | ⟨v, w', h1, h2, h3⟩
          · rw [h2] at z; cases z
          · subst h1
            rw [h2] at z; cases z
            exact ⟨a, v, rfl, gg, p _ _ (s1.trans s2) h3⟩
      | _ => exact p.elim
    · simp only [q2, Res.bind] at p
      exact p H2 (s1.trans s2)
    · simp only [q2, Res.bind] at p
      exact p
  · simp only [q, Res.bind] at p
    exact p H1 s
  · simp only [q, Res.bind] at p
    exact p
theorem get3_E {f g k : PLq.Env → Res D} (h : tE K lin W (fun ρ => (f ρ).bind fun d => (ofO (dkOf d)).bind fun kvs => (g ρ).bind fun y => (k ρ).bind fun z => ofO (dget3 kvs y z)) σ H Q) : tDGet2 (tB K lin W f) (tE K lin W g) (tE K lin W k) σ H Q := by
  obtain ⟨own, ρ, G, p⟩ := h
  refine stepB G (fun d x H1 q1 s1 r1 => ?_) (fun e H1 q s => by simp only [q, Res.bind] at p; exact p H1 s) fun q => by simp only [q, Res.bind] at p; exact p
  simp only [q1, Res.bind] at p
  cases d with
  | dk kvs =>
    have p : postE K W own σ H Q ((g ρ).bind fun y => (k ρ).bind fun z => ofO (dget3 kvs y z)) := p
    obtain ⟨a, vs, rfl, ha, ra⟩ := r1.dk_
    refine ⟨a, rfl, .inl ⟨vs, ha⟩, stepE (G.mono s1) (fun y v H2 q2 s2 r2 => ?_) (fun e H2 q s => by simp only [q, Res.bind] at p; exact p H2 (s1.trans s)) fun q => by simp only [q, Res.bind] at p; exact p⟩
    simp only [q2, Res.bind] at p
    refine stepE ((G.mono s1).mono s2) (fun z w H3 q3 s3 r3 => ?_) (fun e H3 q s => by simp only [q] at p; exact p H3 ((s1.trans s2).trans s)) fun q => by simp only [q] at p; exact p
    simp only [q3] at p
    unfold dget3 at p
    by_cases hk : (keyD y).isSome = true
    · rw [if_pos hk] at p
      obtain ⟨a', o, e, gg, hh⟩ := dk_get (.safe (r2.mono (hid_same s3))) ((r1.mono s2).mono s3) hk
      cases e
      refine ⟨o, gg, ?_⟩
      rcases hh with ⟨h1, h2⟩ | ⟨v', e', h1, h2, h3⟩
      · rw [h2] at p
        subst h1
        exact p w H3 ((s1.trans s2).trans s3) r3
      · rw [h2] at p
        subst h1
        exact p v' H3 ((s1.trans s2).trans s3) h3
    · rw [if_neg hk] at p; exact p.elim
  | _ => exact p.elim
theorem part_E {f : PLq.Env → Res D} {own : List Addr} {ρ : PLq.Env} {Q : Option Int → Hp → Prop} (G : Gd K own lin σ H ρ) (ok : ∀ i H1, f ρ = .ok (.int i) → Same H H1 → Q (some i) H1) (ex : ∀ e H1, f ρ = .exc e → Same H H1 → W e σ H1) (st : f ρ ≠ .stuck)
    (hi : ∀ d, f ρ = .ok d → ∃ i, d = .int i) : tPart (tE K lin W f) σ H Q := by
  refine stepE G (fun d v H1 q s r => ?_) ex st
  obtain ⟨i, rfl⟩ := hi d q
  cases r
  exact ⟨i, rfl, ok i H1 q s⟩
theorem optI_ok {d : D} {i : Int} (h : optI d = some i) : d = .int i := by
  cases d <;> simp [optI] at h; subst h; rfl
theorem sl0_E {f g : PLq.Env → Res D} (h : tE K lin W (fun ρ => (f ρ).bind fun x => (g ρ).bind fun l => (ofO (optI l)).bind fun l => ofO (slD x (some l) none)) σ H Q) : tSl (rSls K) (tB K lin W f) (tPart (tE K lin W g)) tNoPart σ H Q := by
  obtain ⟨own, ρ, G, p⟩ := h
  refine stepB G (fun d x H1 q1 s1 r1 => ?_) (fun e H1 q s => ?_) fun q => ?_
  · simp only [q1, Res.bind] at p
    refine part_E (G.mono s1) (fun i H2 q2 s2 => ?_) (fun e H2 q2 s2 => ?_) (fun q2 => ?_) fun d2 q2 => ?_
    · simp only [q2, Res.bind, optI, ofO] at p
      show rSls K x (some i) none H2 Q
      cases z : slD d (some i) none with
      | none => rw [z] at p; exact p.elim
      | some w => rw [z] at p; exact s_sl (G.mono (s1.trans s2)).trk (r1.mono s2) z fun v H3 s3 r3 => p v H3 ((s1.trans s2).trans s3) r3
    · simp only [q2, Res.bind] at p; exact p H2 (s1.trans s2)
    · simp only [q2, Res.bind] at p; exact p
    · simp only [q2, Res.bind] at p
      cases z : optI d2 with
      | none => rw [z] at p; exact p.elim
      | some i => exact ⟨i, optI_ok z⟩
  · simp only [q, Res.bind] at p
    exact p H1 s
  · simp only [q, Res.bind] at p
    exact p
theorem sl1_E {f g : PLq.Env → Res D} (h : tE K lin W (fun ρ => (f ρ).bind fun x => (g ρ).bind fun l => (ofO (optI l)).bind fun l => ofO (slD x none (some l))) σ H Q) : tSl (rSls K) (tB K lin W f) tNoPart (tPart (tE K lin W g)) σ H Q := by
  obtain ⟨own, ρ, G, p⟩ := h
  refine stepB G (fun d x H1 q1 s1 r1 => ?_) (fun e H1 q s => ?_) fun q => ?_
  · simp only [q1, Res.bind] at p
    show tPart (tE K lin W g) σ H1 fun u H3 => rSls K x none u H3 Q
    refine part_E (G.mono s1) (fun i H2 q2 s2 => ?_) (fun e H2 q2 s2 => ?_) (fun q2 => ?_) fun d2 q2 => ?_
    · simp only [q2, Res.bind, optI, ofO] at p
      show rSls K x none (some i) H2 Q
      cases z : slD d none (some i) with
      | none => rw [z] at p; exact p.elim
      | some w => rw [z] at p; exact s_sl (G.mono (s1.trans s2)).trk (r1.mono s2) z fun v H3 s3 r3 => p v H3 ((s1.trans s2).trans s3) r3
    · simp only [q2, Res.bind] at p; exact p H2 (s1.trans s2)
    · simp only [q2, Res.bind] at p; exact p
    · simp only [q2, Res.bind] at p
      cases z : optI d2 with
      | none => rw [z] at p; exact p.elim
      | some i => exact ⟨i, optI_ok z⟩
  · simp only [q, Res.bind] at p
    exact p H1 s
  · simp only [q, Res.bind] at p
    exact p
theorem sl2_E {f g k : PLq.Env → Res D} (h : tE K lin W (fun ρ => (f ρ).bind fun x => (g ρ).bind fun l => (ofO (optI l)).bind fun l => (k ρ).bind fun h => (ofO (optI h)).bind fun h => ofO (slD x (some l) (some h))) σ H Q) :
    tSl (rSls K) (tB K lin W f) (tPart (tE K lin W g)) (tPart (tE K lin W k)) σ H Q := by
  obtain ⟨own, ρ, G, p⟩ := h
  refine stepB G (fun d x H1 q1 s1 r1 => ?_) (fun e H1 q s => ?_) fun q => ?_
  · simp only [q1, Res.bind] at p
    refine part_E (G.mono s1) (fun i H2 q2 s2 => ?_) (fun e H2 q2 s2 => ?_) (fun q2 => ?_) fun d2 q2 => ?_
    · simp only [q2, Res.bind, optI, ofO] at p
      refine part_E (G.mono (s1.trans s2)) (fun j H3 q3 s3 => ?_) (fun e H3 q3 s3 => ?_) (fun q3 => ?_) fun d3 q3 => ?_
      · simp only [q3, Res.bind, optI, ofO] at p
        show rSls K x (some i) (some j) H3 Q
        cases z : slD d (some i) (some j) with
        | none => rw [z] at p; exact p.elim
        | some w => rw [z] at p; exact s_sl (G.mono ((s1.trans s2).trans s3)).trk ((r1.mono s2).mono s3) z fun v H4 s4 r4 => p v H4 (((s1.trans s2).trans s3).trans s4) r4
      · simp only [q3, Res.bind] at p; exact p H3 ((s1.trans s2).trans s3)
      · simp only [q3, Res.bind] at p; exact p
      · simp only [q3, Res.bind] at p
        cases d3 <;> first | exact ⟨_, rfl⟩ | exact p.elim
    · simp only [q2, Res.bind] at p; exact p H2 (s1.trans s2)
    · simp only [q2, Res.bind] at p; exact p
    · simp only [q2, Res.bind] at p
      cases z : optI d2 with
      | none => rw [z] at p; exact p.elim
      | some i => exact ⟨i, optI_ok z⟩
  · simp only [q, Res.bind] at p
    exact p H1 s
  · simp only [q, Res.bind] at p
    exact p
theorem chain_E {f g k : PLq.Env → Res D} {c1 c2 : Cmp} (h : tE K lin W (fun ρ => (f ρ).bind fun x => (g ρ).bind fun y => (ofO (cmpD c1 x y)).bind fun r => match r with
    | .bl true => (k ρ).bind fun z => ofO (cmpD c2 y z)
    | .bl false => .ok (.bl false)
    | _ => .stuck) σ H Q) : tChain (rCmp K c1) (rCmp K c2) (tE K lin W f) (tE K lin W g) (tE K lin W k) σ H Q := by
  obtain ⟨own, ρ, G, p⟩ := h
  refine stepE G (fun d x H1 q1 s1 r1 => ?_) (fun e H1 q s => ?_) fun q => ?_
  · simp only [q1, Res.bind] at p
    refine stepE (G.mono s1) (fun e y H2 q2 s2 r2 => ?_) (fun e H2 q2 s2 => ?_) fun q2 => ?_
    · simp only [q2, Res.bind] at p
      cases z : cmpD c1 d e with
      | none => rw [z] at p; exact p.elim
      | some w =>
        rw [z] at p
        simp only [ofO] at p
        refine s_cmp c1 own H2 x y d e w _ (G.mono (s1.trans s2)).trk (.safe (r1.mono (hid_same s2))) (.safe r2) z fun v H3 s3 r3 => ?_
        cases w with
        | bl b =>
          cases r3
          refine ⟨b, rfl, ?_⟩
          cases b with
          | true =>
            simp only at p
            rw [if_pos rfl]
            refine stepE (G.mono ((s1.trans s2).trans s3)) (fun e3 y3 H4 q4 s4 r4 => ?_) (fun e H4 q4 s4 => ?_) fun q4 => ?_
            · simp only [q4, Res.bind] at p
              cases z2 : cmpD c2 e e3 with
              | none => rw [z2] at p; exact p.elim
              | some w2 =>
                rw [z2] at p
                exact s_cmp c2 own H4 y y3 e e3 w2 _ (G.mono (((s1.trans s2).trans s3).trans s4)).trk (.safe ((r2.mono (hid_same s3)).mono (hid_same s4))) (.safe r4) z2 fun v H5 s5 r5 => p v H5 ((((s1.trans s2).trans s3).trans s4).trans s5) r5
            · simp only [q4, Res.bind] at p; exact p H4 (((s1.trans s2).trans s3).trans s4)
            · simp only [q4, Res.bind] at p; exact p
          | false =>
            rw [if_neg Bool.false_ne_true]
            exact p _ _ ((s1.trans s2).trans s3) (.bl false)
        | _ => exact p.elim
    · simp only [q2, Res.bind] at p; exact p H2 (s1.trans s2)
    · simp only [q2, Res.bind] at p; exact p
  · simp only [q, Res.bind] at p
    exact p H1 s
  · simp only [q, Res.bind] at p
    exact p
theorem bif_E {X : Cx} {lin : List Nat} {W : Wsh} {σ : L2.St} {H : Hp} {Q : VK} {f : PLq.Env → Res (List D)} (b : Bif) (h : tE X.KK lin W (fun ρ => (f ρ).bind fun ds => ofO (bifD b ds)) σ H Q) : tCB (rBif X b) (tAB X.KK lin W f) σ H Q := by
  obtain ⟨own, ρ, G, p⟩ := h
  refine stepAB G (fun ds vs H1 q s r => ?_) (fun e H1 q s => ?_) fun q => ?_
  · simp only [q, Res.bind] at p
    cases z : bifD b ds with
    | none => rw [z] at p; exact p.elim
    | some w => rw [z] at p; exact s_bif b own H1 vs ds w Q (G.mono s).trk r z fun v H3 s3 r3 => p v H3 (s.trans s3) r3
  · simp only [q, Res.bind] at p
    exact p H1 s
  · simp only [q, Res.bind] at p
    exact p
theorem recv_ty {m : Met} {d : D} (h : recvOk m d = true) : recvP m d := by
  cases m <;> cases d <;> first | exact ⟨_, rfl⟩ | cases h
theorem met_E {X : Cx} (hu : X.A.units + 65 < cLine) {lin : List Nat} {W : Wsh} {σ : L2.St} {H : Hp} {Q : VK} {f : PLq.Env → Res D} {g : PLq.Env → Res (List D)} (m : Met)
    (h : tE X.KK lin W (fun ρ => (f ρ).bind fun d => if recvOk m d then (g ρ).bind fun ds => ofO (metD m d ds) else .stuck) σ H Q) : tBMW X.KK m.T (rMet X m) (tE X.KK lin W f) (tAB X.KK lin W g) σ H Q := by
  obtain ⟨own, ρ, G, p⟩ := h
  refine stepE G (fun d x H1 q s r => ?_) (fun e H1 q s => ?_) fun q => ?_
  · simp only [q, Res.bind] at p
    cases hr : recvOk m d with
    | false => rw [hr] at p; exact p.elim
    | true =>
      rw [hr] at p
      simp only [if_true] at p
      refine ⟨s_met_ty m (.safe r) (recv_ty hr), ?_⟩
      refine stepAB (G.mono s) (fun ds vs H2 q2 s2 r2 => ?_) (fun e H2 q2 s2 => ?_) fun q2 => ?_
      · simp only [q2, Res.bind] at p
        cases z : metD m d ds with
        | none => rw [z] at p; exact p.elim
        | some w => rw [z] at p; exact s_met hu m ((G.mono s).mono s2).trk (.safe (r.mono (hid_same s2))) r2 z fun v H3 s3 r3 => p v H3 ((s.trans s2).trans s3) r3
      · simp only [q2, Res.bind] at p; exact p H2 (s.trans s2)
      · simp only [q2, Res.bind] at p; exact p
  · simp only [q, Res.bind] at p
    exact p H1 s
  · simp only [q, Res.bind] at p
    exact p
inductive TyY (K : KK) (H : Hp) : V → Value → Prop where
  | x {x : V} {t : Value} (h : TyX K H x t) : TyY K H x t
  | raw {a : Addr} {xs : List (List Key × Addr × Value)} (h : H a = some (rawT K.P K.w a xs)) : TyY K H (.ref a) (.type "dict")
def rIsiY (K : KK) : List V → Hp → VK → Prop := fun xs H Q => ∃ (x c : V) (t u : Value) (b : Bool), xs = [x, c] ∧ ClsV c u ∧ TyY K H x t ∧ PySem.W.kitOne K t u = some b ∧ Q (.bl b) H
theorem call_isiY {X : Cx} : CallR X (.builtin "isinstance") (rIsiY X.KK) := by
  intro pins s σ H xs us Q I r h
  obtain ⟨x, c, t, u, b, rfl, k, ty, e, q⟩ := h
  cases ty with
  | x ty => exact call_isi pins s σ H _ us Q I r ⟨x, c, t, u, b, rfl, k, ty, e, q⟩
  | raw hr =>
    obtain ⟨v1, v2, rfl, r1, r2⟩ := vals2 r
    have e2 := k.eq r2
    subst e2
    cases r1
    obtain ⟨⟨_, _, _, o, es, ep, h1, h2, _⟩, _⟩ := (show ObjOk X.prog X.w H s.heap _ (rawT X.prog X.w _ _) from I.hok _ _ hr)
    exact PySem.W.kia_one PySem.W.kitx_dict I.kIn ⟨o, h1, h2.1⟩ e (fun z => nomatch z) fun tk => ⟨.bl b, H, I.tok tk, rfl, q⟩
theorem isi_ty {K : KK} {own : List Addr} {H : Hp} {x : V} {d : D} (r : RepB K own H x d) : ∃ t, TyY K H x (.type t) ∧ (t = "NoneType" ∨ t = "bool" ∨ t = "int" ∨ t = "str" ∨ t = "tuple" ∨ t = "list" ∨ t = "dict") ∧
    ∀ T : Ty, kitB t T.s = some (isiD T d) := by
  have rr := r.rep
  cases rr with
  | non => exact ⟨_, .x (.base .non), .inl rfl, fun T => by cases T <;> decide +kernel⟩
  | bl b => exact ⟨_, .x (.base (.bl _)), .inr (.inl rfl), fun T => by cases T <;> (show kitB "bool" _ = some _) <;> first | (show kitB _ _ = some true; decide +kernel) | (show kitB _ _ = some false; decide +kernel)⟩
  | int b => exact ⟨_, .x (.base (.int _)), .inr (.inr (.inl rfl)), fun T => by cases T <;> first | (show kitB _ _ = some true; decide +kernel) | (show kitB _ _ = some false; decide +kernel)⟩
  | str b => exact ⟨_, .x (.base (.str _)), .inr (.inr (.inr (.inl rfl))), fun T => by cases T <;> first | (show kitB _ _ = some true; decide +kernel) | (show kitB _ _ = some false; decide +kernel)⟩
  | tup h _ _ => exact ⟨_, .x (.fTuple h), .inr (.inr (.inr (.inr (.inl rfl)))), fun T => by cases T <;> first | (show kitB _ _ = some true; decide +kernel) | (show kitB _ _ = some false; decide +kernel)⟩
  | lst h _ => exact ⟨_, .x (.base (.lst h)), .inr (.inr (.inr (.inr (.inr (.inl rfl))))), fun T => by cases T <;> first | (show kitB _ _ = some true; decide +kernel) | (show kitB _ _ = some false; decide +kernel)⟩
  | dk h _ =>
    rcases h with h | ⟨o, h⟩
    · exact ⟨_, .x (.base (.dK h)), .inr (.inr (.inr (.inr (.inr (.inr rfl))))), fun T => by cases T <;> first | (show kitB _ _ = some true; decide +kernel) | (show kitB _ _ = some false; decide +kernel)⟩
    · exact ⟨_, .x (.fDict h), .inr (.inr (.inr (.inr (.inr (.inr rfl))))), fun T => by cases T <;> first | (show kitB _ _ = some true; decide +kernel) | (show kitB _ _ = some false; decide +kernel)⟩
  | scr h =>
    rcases h with (h | ⟨o, h⟩) | ⟨o, its, n, hk, hc, _⟩
    · exact ⟨_, .x (.base (.lst h)), .inr (.inr (.inr (.inr (.inr (.inl rfl))))), fun T => by cases T <;> first | (show kitB _ _ = some true; decide +kernel) | (show kitB _ _ = some false; decide +kernel)⟩
    · exact ⟨_, .x (.base (.frz h)), .inr (.inr (.inr (.inr (.inr (.inl rfl))))), fun T => by cases T <;> first | (show kitB _ _ = some true; decide +kernel) | (show kitB _ _ = some false; decide +kernel)⟩
    · exact ⟨_, .x (.kList hk hc), .inr (.inr (.inr (.inr (.inr (.inl rfl))))), fun T => by cases T <;> first | (show kitB _ _ = some true; decide +kernel) | (show kitB _ _ = some false; decide +kernel)⟩
  | dkT h _ => exact ⟨_, .raw h, .inr (.inr (.inr (.inr (.inr (.inr rfl))))), fun T => by cases T <;> first | (show kitB _ _ = some true; decide +kernel) | (show kitB _ _ = some false; decide +kernel)⟩
theorem isi_E {K : KK} {lin : List Nat} {W : Wsh} {σ : L2.St} {H : Hp} {Q : VK} {f : PLq.Env → Res D} (t : Ty) (h : tE K lin W (fun ρ => (f ρ).bind fun x => .ok (.bl (isiD t x))) σ H Q) : tCB (rIsiY K) (tCons (tB K lin W f) (tCons (tC (.ty t.s)) tNil)) σ H Q := by
  obtain ⟨own, ρ, G, p⟩ := h
  refine stepB G (fun d x H1 q s r => ?_) (fun e H1 q s => ?_) fun q => ?_
  · simp only [q, Res.bind] at p
    obtain ⟨ty, h1, _, h2⟩ := isi_ty r
    exact ⟨x, _, _, _, _, rfl, .ty _, h1, kit_ty (h2 t), p _ _ s (.bl _)⟩
  · simp only [q, Res.bind] at p
    exact p H1 s
  · simp only [q, Res.bind] at p
    exact p
theorem call_E {X : Cx} {ec : Ex → Addr} {W : WX} {lin : List Nat} {σ : L2.St} {H : Hp} {Q : VK} {n : Nat} {F : List D → Res D} {f : PLq.Env → Res (List D)} (hn : ∀ ds, ds.length ≠ n → F ds = .stuck)
    (h : tE X.KK lin (wsh ec W) (fun ρ => (f ρ).bind F) σ H Q) : tCallS (spP X.KK ec n F) (WE W) (tAs X.KK lin (wsh ec W) f) σ H Q := by
  obtain ⟨own, ρ, G, p⟩ := h
  refine stepA G (fun ds vs H1 q s r => ?_) (fun e H1 q s => ?_) fun q => ?_
  · simp only [q, Res.bind] at p
    by_cases hl : ds.length = n
    case neg => rw [hn ds hl] at p; exact p.elim
    refine ⟨own, ds, (G.mono s).trk, r, hl, ?_⟩
    cases z : F ds with
    | ok d => rw [z] at p; exact fun v H' s' r' => p v H' (s.trans s') r'
    | exc e => rw [z] at p; exact fun H' s' => p H' (s.trans s')
    | stuck => rw [z] at p; exact p
  · simp only [q, Res.bind] at p
    exact p H1 s
  · simp only [q, Res.bind] at p
    exact p
end
end PLq
namespace PLq
open PySem L2
section
variable {X : Cx} {ec : Ex → Addr} {W : WX} {Γ : Tbl} {C : Cns} {ck : Ck}
def tCallV (X : Cx) (E : L2.St → XK) (tf : TE) (t : TA) : TE := fun σ H Q => tf σ H fun y H1 => ∃ (a : Addr) (k : Nat) (fd : FuncData) (ps : List Str) (sp : Sp), y = V.ref a ∧ FnOk X.prog X.w X.KK X.mg X.base (L2.CX X.prog X.w) k a fd ps sp ∧ Room k X.A ∧ PySem.W.keepIn X.KK (.ref a) = true ∧ Binds X.KK fd ps [] ∧
  t σ H1 fun vs H2 => sp vs H2 Q (E σ)
theorem pe_callV {fe e : Expr} {es : List Expr} {pos : Pos} {tf : TE} {t : TA} {E : L2.St → XK} (hf : PE X fe tf) (hx : ∀ σ, PassesAt (L2.CX X.prog X.w) X σ (E σ)) (ha : PA X (e :: es) t)
    (ht : eval (.Call fe (e :: es) [] pos) X.env = (do callWith pos (← eval fe X.env) [] (backTo pos (starEach (e :: es) X.env)) (backToKw pos (keywordEach [] X.env))))
    (he : starEach (e :: es) X.env = (false, eval e X.env) :: starEach es X.env) (hpl : (backTo pos (starEach es X.env)).any (·.1) = false) :
    PE X (.Call fe (e :: es) [] pos) (tCallV X E tf t) := by
  refine ⟨fun pins s σ H Q I h => ?_⟩
  refine PyProof.Rows.Call_ (thn (hf.run pins s σ H _ I h) fun u s1 ⟨y, H1, I1, ry, a, k, fd, ps, sp, ey, F, hr, hk, hb, q⟩ => ?_) ht
  subst ey
  obtain rfl : u = Value.ref a := ry
  refine PySem.W.callWith_K (h₀ := X.base) I.ok.mod.kin hk (thn (ha.run pos pins s1 σ H1 _ I1 q) fun us s2 ⟨vs, H2, I2, r, q2⟩ => ⟨I2.kIn, ?_⟩) he hpl
  exact run_fnS F hr hb (hx σ) I2 r q2
theorem pe_call0S {k : Nat} {f : Addr} {fd : FuncData} {ps : List Str} {sp : Sp} {E : L2.St → XK} {x : Str} {p pos : Pos} (F : FnOk X.prog X.w X.KK X.mg X.base (L2.CX X.prog X.w) k f fd ps sp) (hr : Room k X.A) (hg : Gl X x) (hm : X.mg x = some (.ref f)) (hk : PySem.W.keepIn X.KK (.ref f) = true) (hb : Binds X.KK fd ps [])
    (hx : ∀ σ, PassesAt (L2.CX X.prog X.w) X σ (E σ)) (hdb : (x == ("__debug__" : Str)) = false) : PE X (.Call (.Name x p) [] [] pos) (tCallS sp E tNil) := by
  refine ⟨fun pins s σ H Q I h => ?_⟩
  refine wpAny_Call_Name_kw (ld_glob I hg hm ?_ hdb)
  exact PySem.W.callWith_K0 I.kIn hk (run_fnS (us := []) F hr hb (hx σ) I .nil h)
def RefAt (X : Cx) (ec : Ex → Addr) (Γ : Tbl) (n : Nat) (a : Addr) : Prop := ∃ (p : Str × (List D → Res D)) (nn k : Nat) (fd : FuncData) (ps : List Str), Γ[n]? = some p ∧ (∀ ds, ds.length ≠ nn → p.2 ds = .stuck) ∧
  FnOk X.prog X.w X.KK X.mg X.base (L2.CX X.prog X.w) k a fd ps (spP X.KK ec nn p.2) ∧ PySem.W.keepIn X.KK (.ref a) = true ∧ Binds X.KK fd ps [] ∧ Room k X.A
def tRefs (as : List Addr) : TA := fun _ H Q => Q (as.map V.ref) H
theorem pa_refs (h : XOk X ck ec W Γ C) : ∀ (ns : List Nat) (fl : List Expr), okNs ck ns fl = true → ∃ as : List Addr, as.length = ns.length ∧ (∀ (i n : Nat), ns[i]? = some n → ∃ a : Addr, as[i]? = some a ∧ RefAt X ec Γ n a) ∧ PA X fl (tRefs as)
  | [], [], _ => ⟨[], rfl, fun i n e => by simp at e, pa_nil⟩
  | [], _ :: _, o => by simp [okNs] at o
  | _ :: _, [], o => by simp [okNs] at o
  | n :: ns, e :: es, o => by
    cases e with
    | Name x p =>
      simp only [okNs, Bool.and_eq_true, decide_eq_true_eq] at o
      obtain ⟨⟨o1, o2⟩, o3⟩ := o
      obtain ⟨as, l, r, pa⟩ := pa_refs h ns es o3
      obtain ⟨g1, g2, g3⟩ := h.gl o2
      rw [← h.fs, List.getElem?_map, Option.map_eq_some_iff] at o1
      obtain ⟨pp, e1, e2⟩ := o1
      obtain ⟨nn, k, f, fd, ps, hn, F, hm, hk, hb, hr, _⟩ := h.fn n pp e1
      rw [e2] at hm
      refine ⟨f :: as, by simp [l], fun i m e => ?_, (pa_cons (pe_glob g1 hm (v := .ref f) rfl g2) pa (star_plain rfl _ _)).imp fun σ H Q q => ?_⟩
      · cases i with
        | zero =>
          simp at e
          subst e
          exact ⟨f, rfl, pp, nn, k, fd, ps, e1, hn, F, hk, hb, hr⟩
        | succ i => simpa using r i m (by simpa using e)
      · exact q
    | _ => simp [okNs] at o
theorem postE_mono {K : KK} {W : Wsh} {own : List Addr} {σ : L2.St} {H H' : Hp} {Q : VK} (s : Same H H') : ∀ {r : Res D}, postE K W own σ H Q r → postE K W own σ H' Q r
  | .ok _, p => fun v H2 s2 r => p v H2 (s.trans s2) r
  | .exc _, p => fun H2 s2 => p H2 (s.trans s2)
  | .stuck, p => p
theorem atI_mapV {α β : Type} (f : α → β) (xs : List α) {j : Int} (h0 : 0 ≤ j) {a : α} (h : xs[j.toNat]? = some a) : L2.atI (xs.map f) j = some (f a) := by
  have e : (j.toNat : Int) = j := Int.toNat_of_nonneg h0
  rw [← e]
  exact L2.atI_nat (by rw [List.getElem?_map, h]; rfl)
theorem fcall_E {lin : List Nat} {σ : L2.St} {H : Hp} {Q : VK} {f : PLq.Env → Res D} {g : PLq.Env → Res (List D)} {ns : List Nat} {as : List Addr} (hl : as.length ≤ 1000) (hr : ∀ (i n : Nat), ns[i]? = some n → ∃ a : Addr, as[i]? = some a ∧ RefAt X ec Γ n a)
    (h : tE X.KK lin (wsh ec W) (fun ρ => (f ρ).bind fun y => (ofO (selN ns y)).bind fun n => (g ρ).bind fun ds => Γ.fn n ds) σ H Q)
    (fn_at : ∀ (n : Nat) (p : Str × (List D → Res D)), Γ[n]? = some p → Γ.fn n = p.2) :
    tCallV X (WE W) (tOp (rIx X.KK) (tLst (tRefs as)) (tE X.KK lin (wsh ec W) f)) (tAs X.KK lin (wsh ec W) g) σ H Q := by
  obtain ⟨own, ρ, G, p⟩ := h
  refine ⟨by rw [List.length_map, sizeLine_eq]; omega, fun c hc => ?_⟩
  have s0 : Same H (upd H c (.lst (as.map V.ref))) := same_upd hc
  refine stepE (G.mono s0) (fun d v H1 q s r => ?_) (fun e H1 q s => ?_) fun q => ?_
  · simp only [q, Res.bind] at p
    cases d with
    | int j =>
      obtain rfl : v = V.int j := by cases r; rfl
      cases z : selN ns (.int j) with
      | none => rw [z] at p; exact p.elim
      | some n =>
        simp only [z, ofO] at p
        simp only [selN] at z
        split at z
        case isFalse => cases z
        rename_i h0
        obtain ⟨a, ea, pp, nn, k, fd, ps, e1, hn, F, hk, hb, hrm⟩ := hr _ _ z
        rw [fn_at n pp e1] at p
        have s1 := s0.trans s
        refine .inl ⟨c, as.map V.ref, j, V.ref a, rfl, rfl, .of (s _ _ upd_same), atI_mapV _ _ h0 ea, a, k, fd, ps, spP X.KK ec nn pp.2, rfl, F, hrm, hk, hb, ?_⟩
        exact call_E (n := nn) (F := pp.2) hn ⟨own, ρ, G.mono s1, postE_mono s1 p⟩
    | _ => exact p.elim
  · simp only [q, Res.bind] at p
    exact p H1 (s0.trans s)
  · simp only [q, Res.bind] at p
    exact p
theorem call0_E {lin : List Nat} {σ : L2.St} {H : Hp} {Q : VK} {n : Nat} {F : List D → Res D} (hn : ∀ ds, ds.length ≠ n → F ds = .stuck) (h : tE X.KK lin (wsh ec W) (fun _ => F []) σ H Q) : tCallS (spP X.KK ec n F) (WE W) tNil σ H Q := by
  obtain ⟨own, ρ, G, p⟩ := h
  by_cases hl : ([] : List D).length = n
  case neg =>
    rw [hn [] hl] at p
    exact p.elim
  refine ⟨own, [], G.trk, .nil, hl, ?_⟩
  cases z : F [] with
  | ok d => rw [z] at p; exact fun v H' s' r' => p v H' s' r'
  | exc e => rw [z] at p; exact fun H' s' => p H' s'
  | stuck => rw [z] at p; exact p
end
end PLq
namespace PLq
open PySem L2
theorem Gd.set {K : KK} {own : List Addr} {lin : List Nat} {σ : L2.St} {H : Hp} {ρ : PLq.Env} {i : Nat} {v : V} {d : D} (g : Gd K own lin σ H ρ) (r : Rep K (hid own H) v d) (hl : i ∉ lin) : Gd K own lin (σ.set i (some v)) H (ρ.set i (some d)) where
  len := by rw [List.length_set, List.length_set]; exact g.len
  val := fun j e h hj => by
    by_cases q : i = j
    · subst q
      by_cases z : i < ρ.length
      · rw [List.getElem?_set_self z] at h
        cases h
        exact ⟨v, by rw [List.getElem?_set_self (by rw [← g.len]; exact z)], r⟩
      · rw [List.getElem?_eq_none (by rw [List.length_set]; omega)] at h; cases h
    · rw [List.getElem?_set_ne q] at h
      obtain ⟨w, h1, h2⟩ := g.val j e h hj
      exact ⟨w, by rw [List.getElem?_set_ne q]; exact h1, h2⟩
  lob := fun j e h hj => by
    have q : i ≠ j := fun z => hl (z ▸ hj)
    rw [List.getElem?_set_ne q] at h ⊢
    exact g.lob j e h hj
  sep := fun j k a d1 d2 hj hk h1 h2 h3 h4 => by
    have q : i ≠ j := fun z => hl (z ▸ hj)
    have q' : i ≠ k := fun z => hl (z ▸ hk)
    rw [List.getElem?_set_ne q] at h1 h3
    rw [List.getElem?_set_ne q'] at h2 h4
    exact g.sep j k a d1 d2 hj hk h1 h2 h3 h4
  trk := g.trk
theorem Gd.unset {K : KK} {own : List Addr} {lin : List Nat} {σ : L2.St} {H : Hp} {ρ : PLq.Env} {i : Nat} (g : Gd K own lin σ H ρ) : Gd K own lin (σ.set i none) H (ρ.set i none) where
  len := by rw [List.length_set, List.length_set]; exact g.len
  val := fun j e h hj => by
    by_cases q : i = j
    · subst q
      by_cases z : i < ρ.length
      · rw [List.getElem?_set_self z] at h; cases h
      · rw [List.getElem?_eq_none (by rw [List.length_set]; omega)] at h; cases h
    · rw [List.getElem?_set_ne q] at h ⊢
      exact g.val j e h hj
  lob := fun j e h hj => by
    by_cases q : i = j
    · subst q
      by_cases z : i < ρ.length
      · rw [List.getElem?_set_self z] at h; cases h
      · rw [List.getElem?_eq_none (by rw [List.length_set]; omega)] at h; cases h
    · rw [List.getElem?_set_ne q] at h ⊢
      exact g.lob j e h hj
  sep := fun j k a d1 d2 hj hk h1 h2 h3 h4 => by
    have q : i ≠ j := fun z => by
      subst z
      by_cases z : i < ρ.length
      · rw [List.getElem?_set_self z] at h1; cases h1
      · rw [List.getElem?_eq_none (by rw [List.length_set]; omega)] at h1; cases h1
    have q' : i ≠ k := fun z => by
      subst z
      by_cases z : i < ρ.length
      · rw [List.getElem?_set_self z] at h2; cases h2
      · rw [List.getElem?_eq_none (by rw [List.length_set]; omega)] at h2; cases h2
    rw [List.getElem?_set_ne q] at h1 h3
    rw [List.getElem?_set_ne q'] at h2 h4
    exact g.sep j k a d1 d2 hj hk h1 h2 h3 h4
  trk := g.trk
theorem Gd.wipe {K : KK} {own : List Addr} {lin : List Nat} {σ : L2.St} {H : Hp} {ρ : PLq.Env} (g : Gd K own lin σ H ρ) : ∀ vs : List Nat, Gd K own lin (L2.wipe σ vs) H (wipeD ρ vs)
  | [] => g
  | v :: vs => (Gd.wipe g vs).unset
def rdTg (K : KK) : Tg → TG
  | .name i => gName i
  | .tup2 a b => gTup K 2 (gCons (rdTg K a) (gCons (rdTg K b) gNil))
def IRep (K : KK) (own : List Addr) (H : Hp) (x : V) (d : D) : Prop :=
  Rep K (hid own H) x d ∨ ∃ T v w d1 d2, x = .ref T ∧ H T = some (.tup [v, w]) ∧ d = .tup [d1, d2] ∧ Rep K (hid own H) v d1 ∧ Rep K (hid own H) w d2
inductive Sets (P : Nat → Prop) : L2.St → L2.St → Prop
  | refl (σ : L2.St) : Sets P σ σ
  | step {σ σ' : L2.St} {i : Nat} {v : V} : P i → Sets P (σ.set i (some v)) σ' → Sets P σ σ'
theorem Sets.trans {P : Nat → Prop} {a b c : L2.St} (h : Sets P a b) (k : Sets P b c) : Sets P a c := by
  induction h with
  | refl => exact k
  | step p _ ih => exact .step p (ih k)
def tgP : Tg → Nat → Prop
  | .name i => fun j => j = i
  | .tup2 a b => fun j => tgP a j ∨ tgP b j
theorem Sets.mono {P Q : Nat → Prop} (h : ∀ i, P i → Q i) {a b : L2.St} (s : Sets P a b) : Sets Q a b := by
  induction s with
  | refl => exact .refl _
  | step p _ ih => exact .step (h _ p) ih
def tgFree (lin : List Nat) : Tg → Prop
  | .name i => i ∉ lin
  | .tup2 a b => tgFree lin a ∧ tgFree lin b
theorem tg_rep {K : KK} {own : List Addr} {lin : List Nat} {H : Hp} : ∀ (tg : Tg) {σ : L2.St} {ρ ρ1 : PLq.Env} {x : V} {d : D} {Q : L2.St → Hp → Prop}, tgFree lin tg → Gd K own lin σ H ρ → Rep K (hid own H) x d → assignTg tg d ρ = some ρ1 →
    (∀ σ1, Gd K own lin σ1 H ρ1 → Sets (tgP tg) σ σ1 → Q σ1 H) → rdTg K tg x σ H Q
  | .name i, σ, ρ, ρ1, x, d, Q, f, g, r, h, q => by
    simp only [assignTg] at h
    cases h
    exact q _ (g.set r f) (.step rfl (.refl _))
  | .tup2 a b, σ, ρ, ρ1, x, d, Q, f, g, r, h, q => by
    cases d with
    | tup ds =>
      cases ds with
      | nil => cases h
      | cons d1 ds =>
        cases ds with
        | nil => cases h
        | cons d2 ds =>
          cases ds with
          | cons _ _ => cases h
          | nil =>
            cases r with
            | tup ha hn ra =>
              cases ra with
              | cons r1 t1 =>
                cases t1 with
                | cons r2 t2 =>
                  cases t2
                  simp only [assignTg] at h
                  cases e1 : assignTg a d1 ρ with
                  | none => rw [e1] at h; cases h
                  | some ρ2 =>
                    rw [e1] at h
                    refine ⟨_, _, rfl, .inl (.inr ⟨_, hid_le _ _ _ _ ha⟩), rfl, _, _, rfl, ?_⟩
                    refine tg_rep a f.1 g r1 e1 fun σ1 g1 s1 => ⟨_, _, rfl, ?_⟩
                    exact tg_rep b f.2 g1 r2 h fun σ2 g2 s2 => ⟨rfl, q σ2 g2 ((s1.mono fun _ z => .inl z).trans (s2.mono fun _ z => .inr z))⟩
    | _ => cases h
theorem tg_irep {K : KK} {own : List Addr} {lin : List Nat} {H : Hp} (tg : Tg) {σ : L2.St} {ρ ρ1 : PLq.Env} {x : V} {d : D} {Q : L2.St → Hp → Prop} (f : tgFree lin tg) (g : Gd K own lin σ H ρ) (r : IRep K own H x d) (hp : Rep K (hid own H) x d ∨ ∃ a b, tg = .tup2 a b)
    (h : assignTg tg d ρ = some ρ1) (q : ∀ σ1, Gd K own lin σ1 H ρ1 → Sets (tgP tg) σ σ1 → Q σ1 H) : rdTg K tg x σ H Q := by
  rcases r with r | ⟨T, v, w, d1, d2, rfl, hT, rfl, r1, r2⟩
  · exact tg_rep tg f g r h q
  · rcases hp with r | ⟨a, b, rfl⟩
    · exact tg_rep tg f g r h q
    · simp only [assignTg] at h
      cases e1 : assignTg a d1 ρ with
      | none => rw [e1] at h; cases h
      | some ρ2 =>
        rw [e1] at h
        refine ⟨_, _, rfl, .inl (.inl hT), rfl, _, _, rfl, ?_⟩
        refine tg_rep a f.1 g r1 e1 fun σ1 g1 s1 => ⟨_, _, rfl, ?_⟩
        exact tg_rep b f.2 g1 r2 h fun σ2 g2 s2 => ⟨rfl, q σ2 g2 ((s1.mono fun _ z => .inl z).trans (s2.mono fun _ z => .inr z))⟩
theorem assignEach2 {e1 e2 : Expr} (h1 : plainE e1 = true) (h2 : plainE e2 = true) (env : PySem.Env) : assignEach [e1, e2] env = [(false, assign e1 env), (false, assign e2 env)] := by
  have a : ∀ {e : Expr} (h : plainE e = true) (es : List Expr), assignEach (e :: es) env = (false, assign e env) :: assignEach es env := fun {e} h es => by
    cases e <;> first | rfl | cases h
  rw [a h1, a h2]; rfl
theorem assignEach1 {e2 : Expr} (h2 : plainE e2 = true) (env : PySem.Env) : assignEach [e2] env = [(false, assign e2 env)] := by
  cases e2 <;> first | rfl | cases h2
theorem sndTg {X : Cx} {ck : Ck} {ec : Ex → Addr} {W : WX} {Γ : Tbl} {C : Cns} (h : XOk X ck ec W Γ C) {fc : Str → Bool} (hf : ∀ x, fc x = true → X.fn x = true) : ∀ (tg : Tg) (e : Expr), okTg ck fc tg e = true → PG X e (rdTg X.KK tg) ∧ tgFree ck.lin tg
  | .name i, .Name x pos, o => by
    simp only [okTg, Bool.and_eq_true, Bool.or_eq_true, decide_eq_true_eq, Bool.not_eq_true'] at o
    refine ⟨pg_name h.nd (by rw [h.N]; exact o.1.1) (by rw [h.sc]; exact o.1.2.imp id fun z => z.1) (by rw [h.sc]; exact o.1.2.elim .inr fun z => .inl (hf x z.2)), fun z => ?_⟩
    have := List.contains_iff_mem.mpr z
    rw [o.2] at this; cases this
  | .tup2 a b, .Tuple [e1, e2] k pos, o => by
    simp only [okTg, Bool.and_eq_true] at o
    obtain ⟨g1, f1⟩ := sndTg h hf a e1 o.1.1.1
    obtain ⟨g2, f2⟩ := sndTg h hf b e2 o.1.1.2
    refine ⟨pg_tup h.calm (pgs_cons g1 (pgs_cons g2 pgs_nil ?_) ?_) ?_ ?_, f1, f2⟩
    · rw [assignEach1 o.2]; rfl
    · rw [assignEach2 o.1.2 o.2, assignEach1 o.2]; rfl
    · rw [assignEach2 o.1.2 o.2]; rfl
    · rw [assignEach2 o.1.2 o.2]; rfl
  | .name _, .BoolOp .., o | .name _, .NamedExpr .., o | .name _, .BinOp .., o | .name _, .UnaryOp .., o | .name _, .Lambda .., o | .name _, .IfExp .., o | .name _, .Dict .., o | .name _, .Set .., o
  | .name _, .ListComp .., o | .name _, .SetComp .., o | .name _, .DictComp .., o | .name _, .GeneratorExp .., o | .name _, .Await .., o | .name _, .Yield .., o | .name _, .YieldFrom .., o
  | .name _, .Compare .., o | .name _, .Call .., o | .name _, .FormattedValue .., o | .name _, .JoinedStr .., o | .name _, .Constant .., o | .name _, .Attribute .., o | .name _, .Subscript .., o
  | .name _, .Starred .., o | .name _, .List .., o | .name _, .Tuple .., o | .name _, .Slice .., o => by cases o
  | .tup2 _ _, .BoolOp .., o | .tup2 _ _, .NamedExpr .., o | .tup2 _ _, .BinOp .., o | .tup2 _ _, .UnaryOp .., o | .tup2 _ _, .Lambda .., o | .tup2 _ _, .IfExp .., o | .tup2 _ _, .Dict .., o | .tup2 _ _, .Set .., o
  | .tup2 _ _, .ListComp .., o | .tup2 _ _, .SetComp .., o | .tup2 _ _, .DictComp .., o | .tup2 _ _, .GeneratorExp .., o | .tup2 _ _, .Await .., o | .tup2 _ _, .Yield .., o | .tup2 _ _, .YieldFrom .., o
  | .tup2 _ _, .Compare .., o | .tup2 _ _, .Call .., o | .tup2 _ _, .FormattedValue .., o | .tup2 _ _, .JoinedStr .., o | .tup2 _ _, .Constant .., o | .tup2 _ _, .Attribute .., o | .tup2 _ _, .Subscript .., o
  | .tup2 _ _, .Starred .., o | .tup2 _ _, .List .., o | .tup2 _ _, .Name .., o | .tup2 _ _, .Slice .., o => by cases o
  | .tup2 _ _, .Tuple [] _ _, o | .tup2 _ _, .Tuple [_] _ _, o | .tup2 _ _, .Tuple (_ :: _ :: _ :: _) _ _, o => by cases o
theorem okTg_free {ck : Ck} {fc : Str → Bool} : ∀ (tg : Tg) (e : Expr), okTg ck fc tg e = true → tgFree ck.lin tg
  | .name i, e, o => by
    cases e with
    | Name x pos =>
      simp only [okTg, Bool.and_eq_true, Bool.or_eq_true, decide_eq_true_eq, Bool.not_eq_true'] at o
      exact fun z => by
        have := List.contains_iff_mem.mpr z
        rw [o.2] at this; cases this
    | _ => exact Bool.noConfusion o
  | .tup2 a b, e, o => by
    cases e with
    | Tuple es k pos =>
      match es, o with
      | [e1, e2], o =>
        simp only [okTg, Bool.and_eq_true] at o
        exact ⟨okTg_free a e1 o.1.1.1, okTg_free b e2 o.1.1.2⟩
      | [], o => exact Bool.noConfusion o
      | [_], o => exact Bool.noConfusion o
      | _ :: _ :: _ :: _, o => exact Bool.noConfusion o
    | _ => exact Bool.noConfusion o
theorem wipe_set {σ : L2.St} {i : Nat} {v : Option V} : ∀ {vs : List Nat}, i ∈ vs → wipe (σ.set i v) vs = wipe σ vs
  | [], h => by cases h
  | w :: vs, h => by
    show (wipe (σ.set i v) vs).set w none = (wipe σ vs).set w none
    by_cases q : i ∈ vs
    · rw [wipe_set q]
    · have e : i = w := by
        rcases List.mem_cons.mp h with e | e
        · exact e
        · exact absurd e q
      subst e
      have c : ∀ us : List Nat, i ∉ us → wipe (σ.set i v) us = (wipe σ us).set i v := by
        intro us
        induction us with
        | nil => intro _; rfl
        | cons u us ih =>
          intro hu
          simp only [List.mem_cons, not_or] at hu
          show (wipe (σ.set i v) us).set u none = ((wipe σ us).set u none).set i v
          rw [ih hu.2, List.set_comm _ _ hu.1]
      rw [c vs q, List.set_set]
theorem wipe_wipe (σ : L2.St) (vs : List Nat) : wipe (wipe σ vs) vs = wipe σ vs := by
  have : ∀ us : List Nat, (∀ u ∈ us, u ∈ vs) → wipe (wipe σ us) vs = wipe σ vs := by
    intro us
    induction us with
    | nil => intro _; rfl
    | cons u us ih =>
      intro hu
      show wipe ((wipe σ us).set u none) vs = _
      rw [wipe_set (hu u List.mem_cons_self)]
      exact ih fun x hx => hu x (List.mem_cons_of_mem _ hx)
  exact this vs fun _ h => h
theorem wipe_sets {P : Nat → Prop} {vs : List Nat} (hp : ∀ i, P i → i ∈ vs) {σ σ' : L2.St} (s : Sets P σ σ') : wipe σ' vs = wipe σ vs := by
  induction s with
  | refl => rfl
  | step p _ ih => rw [ih, wipe_set (hp _ p)]
theorem tgIn_P {own : List Nat} : ∀ (tg : Tg), tgIn own tg = true → ∀ i, tgP tg i → i ∈ own
  | .name i, h, j, e => by
    have e : j = i := e
    subst e; exact List.contains_iff_mem.mp h
  | .tup2 a b, h, j, e => by
    simp only [tgIn, Bool.and_eq_true] at h
    rcases e with e | e
    · exact tgIn_P a h.1 j e
    · exact tgIn_P b h.2 j e
end PLq
namespace PLq
open PySem L2
open RZ (ItzT iZipA pi_zipA)
def postI (K : KK) (W : Wsh) (own : List Addr) (σ : L2.St) (H : Hp) (pr : Bool) (R : L2.It → Hp → Prop) : Res (List D) → Prop
  | .ok ds => ∀ (J : L2.It) (H1 : Hp) (G : Hp → Prop) (Y : Nat → Hp → V → Hp → Prop), Same H H1 → Walk J ds.length G Y → (∀ own2 H2, Same (hid own H1) (hid own2 H2) → G H2) →
      (∀ i d own2 H2 x H3, ds[i]? = some d → (∀ a, a ∈ own2 → ∃ o, H2 a = some o) → Same (hid own H1) (hid own2 H2) → Y i H2 x H3 → Same H2 H3 ∧ (pr = false → Rep K (hid own2 H3) x d) ∧ IRep K own2 H3 x d) → R J H1
  | .exc e => ∀ H', Same H H' → W e σ H'
  | .stuck => False
def tI (K : KK) (lin : List Nat) (W : Wsh) (pr : Bool) (f : PLq.Env → Res (List D)) : TI := fun σ H R => ∃ own ρ, Gd K own lin σ H ρ ∧ postI K W own σ H pr R (f ρ)
theorem _root_.L2.PI.imp {X : Cx} {tg e : Expr} {t t' : TI} (h : PI X tg e t) (i : ∀ σ H R, t' σ H R → t σ H R) : PI X tg e t' := ⟨fun pins s σ H R I q => h.run pins s σ H R I (i σ H R q)⟩
theorem _root_.L2.PI.or {X : Cx} {tg e : Expr} {t t' : TI} (h : PI X tg e t) (h' : PI X tg e t') : PI X tg e (fun σ H R => t σ H R ∨ t' σ H R) :=
  ⟨fun pins s σ H R I q => q.elim (h.run pins s σ H R I) (h'.run pins s σ H R I)⟩
section
variable {K : KK} {lin : List Nat} {W : Wsh} {σ : L2.St} {H : Hp} {R : L2.It → Hp → Prop} {own : List Addr}
theorem Reps.up {vs : List V} {ds : List D} {own2 : List Addr} {H1 H2 : Hp} (r : Reps K (hid own H1) vs ds) (s : Same (hid own H1) (hid own2 H2)) : Reps K (hid own2 H2) vs ds := r.mono s
theorem stand {own2 : List Addr} {H1 H2 : Hp} {a : Addr} {o : HO} (s : Same (hid own H1) (hid own2 H2)) (h : hid own H1 a = some o) : H2 a = some o := hid_le _ _ _ _ (s _ _ h)
theorem Rep.lst_ {H : Hp} {v : V} {ds : List D} (h : Rep K H v (.lst ds)) : ∃ a vs, v = .ref a ∧ H a = some (.lst vs) ∧ Reps K H vs ds := by
  cases h with | lst h r => exact ⟨_, _, rfl, h, r⟩
theorem Rep.tup_ {H : Hp} {v : V} {ds : List D} (h : Rep K H v (.tup ds)) : ∃ a vs o, v = .ref a ∧ H a = some (.frz o (.tup vs)) ∧ Reps K H vs ds := by
  cases h with | tup h _ r => exact ⟨_, _, _, rfl, h, r⟩
theorem Rep.scr_ {H : Hp} {v : V} {ns : List Int} (h : Rep K H v (.scr ns)) : ∃ a, v = .ref a ∧ SqL K H a (ns.map V.int) := by
  cases h with | scr h => exact ⟨_, rfl, h⟩
theorem at_list {own2 : List Addr} {H1 H2 H3 : Hp} {vs : List V} {ds : List D} {i : Nat} {d : D} {x : V} (r : Reps K (hid own H1) vs ds) (hd : ds[i]? = some d) (s : Same (hid own H1) (hid own2 H2)) (y : YAt vs i H2 x H3) :
    Same H2 H3 ∧ (false = false → Rep K (hid own2 H3) x d) ∧ IRep K own2 H3 x d := by
  obtain ⟨rfl, y⟩ := y
  obtain ⟨v, h1, h2⟩ := (r.up s).get hd
  rw [y] at h1; cases h1
  exact ⟨Same.refl _, fun _ => h2, .inl h2⟩
theorem of_I {f : PLq.Env → Res D} (h : tI K lin W false (fun ρ => (f ρ).bind fun x => ofO (itemsD x)) σ H R) : iList K (tE K lin W f) σ H R ∨ (iTup K (tE K lin W f) σ H R ∨ iStr (tE K lin W f) σ H R) := by
  obtain ⟨own, ρ, G, p⟩ := h
  cases q : f ρ with
  | exc e =>
    simp only [q, Res.bind] at p
    exact .inl (stepE G (fun _ _ _ q' => by rw [q] at q'; cases q') (fun e' H1 q' s => by rw [q] at q'; cases q'; exact p H1 s) (by rw [q]; simp))
  | stuck =>
    simp only [q, Res.bind] at p
    exact p.elim
  | ok d =>
    simp only [q, Res.bind] at p
    have nx : ∀ {P : Prop} e, f ρ = .exc e → P := fun e q' => by rw [q] at q'; cases q'
    have ns : f ρ ≠ .stuck := by rw [q]; simp
    cases d with
    | lst ds =>
      refine .inl (stepE G (fun d' v H1 q' s r => ?_) (fun e H1 q' s => nx e q') ns)
      rw [q] at q'; cases q'
      obtain ⟨a, vs, rfl, ha, ra⟩ := r.lst_
      refine ⟨a, rfl, ⟨vs, .of (hid_le _ _ _ _ ha)⟩, p _ H1 (fun H => SqL K H a vs) (YAt vs) s (by have w := walk_list (K := K) (a := a) (xs := vs); rw [ra.length] at w; exact w) (fun own2 H2 s2 => .of (stand s2 ha)) fun i d own2 H2 x H3 hd _ s2 y => at_list ra hd s2 y⟩
    | tup ds =>
      refine .inr (.inl (stepE G (fun d' v H1 q' s r => ?_) (fun e H1 q' s => nx e q') ns))
      rw [q] at q'; cases q'
      obtain ⟨a, vs, o, rfl, ha, ra⟩ := r.tup_
      refine ⟨a, rfl, ⟨vs, .inl (.inr ⟨o, hid_le _ _ _ _ ha⟩)⟩, p _ H1 (fun H => SqT K H a vs) (YAt vs) s (by have w := walk_tup (K := K) (a := a) (xs := vs); rw [ra.length] at w; exact w) (fun own2 H2 s2 => .inl (.inr ⟨o, stand s2 ha⟩)) fun i d own2 H2 x H3 hd _ s2 y => at_list ra hd s2 y⟩
    | scr ns' =>
      refine .inl (stepE G (fun d' v H1 q' s r => ?_) (fun e H1 q' s => nx e q') ns)
      rw [q] at q'; cases q'
      obtain ⟨a, rfl, ha⟩ := r.scr_
      refine ⟨a, rfl, ⟨_, (hid_le _ _).seq ha⟩, p _ H1 (fun H => SqL K H a (ns'.map V.int)) (YAt (ns'.map V.int)) s (by have w := walk_list (K := K) (a := a) (xs := ns'.map V.int); rw [List.length_map] at w ⊢; exact w) (fun own2 H2 s2 => (hid_le _ _).seq (s2.seq ha)) fun i d own2 H2 x H3 hd _ s2 y => at_list (Reps.of_ints ns') hd s2 y⟩
    | str x =>
      simp only [itemsD] at p
      by_cases hl : x.length ≤ szL
      · rw [if_pos hl] at p
        refine .inr (.inr (stepE G (fun d' v H1 q' s r => ?_) (fun e H1 q' s => nx e q') ns))
        rw [q] at q'; cases q'
        cases r
        refine ⟨_, rfl, p _ H1 (fun _ => True) (fun i H v H' => H' = H ∧ ∃ c, (mkS x).cps[i]? = some c ∧ v = .str ⟨#[c]⟩) s (by have w := walk_str (z := mkS x); rw [show (mkS x).cps.size = x.length from mkS_len x] at w; rw [List.length_map]; exact w) (fun _ _ _ => trivial) fun i d own2 H2 v H3 hd _ s2 y => ?_⟩
        obtain ⟨rfl, c, h1, rfl⟩ := y
        rw [List.getElem?_map] at hd
        have h2 : x[i]? = some c := by
          have := h1
          simp only [mkS, List.getElem?_toArray] at this
          exact this
        rw [h2] at hd; cases hd
        exact ⟨Same.refl _, fun _ => .str [c], .inl (.str [c])⟩
      · rw [if_neg hl] at p; exact p.elim
    | _ => exact p.elim
theorem rngL_get (lo st : Int) : ∀ (n : Nat) (lo : Int) (i : Nat), (rngL lo n st)[i]? = if i < n then some (.int (lo + i * st)) else none
  | 0, lo, i => by simp [rngL]
  | n + 1, lo, i => by
    cases i with
    | zero => simp [rngL]
    | succ i =>
      simp only [rngL, List.getElem?_cons_succ]
      rw [rngL_get lo st n (lo + st) i]
      by_cases h : i < n
      · rw [if_pos h, if_pos (by omega)]
        congr 2
        have : ((i + 1 : Nat) : Int) * st = (i : Int) * st + st := by
          rw [Int.natCast_succ, Int.add_mul, Int.one_mul]
        omega
      · rw [if_neg h, if_neg (by omega)]
theorem rngL_len (st : Int) : ∀ (n : Nat) (lo : Int), (rngL lo n st).length = n
  | 0, _ => rfl
  | n + 1, lo => by simp [rngL, rngL_len st n]
theorem at_rng {own2 : List Addr} {H2 H3 : Hp} {lo st : Int} {n i : Nat} {d : D} {x : V} (hd : (rngL lo n st)[i]? = some d) (y : H3 = H2 ∧ x = .int (lo + (i : Nat) * st)) :
    Same H2 H3 ∧ (false = false → Rep K (hid own2 H3) x d) ∧ IRep K own2 H3 x d := by
  obtain ⟨rfl, rfl⟩ := y
  rw [rngL_get lo] at hd
  split at hd
  · cases hd; exact ⟨Same.refl _, fun _ => .int _, .inl (.int _)⟩
  · cases hd
theorem inB_ok {i : Int} (h : inB i = true) : -(2 ^ 62) ≤ i ∧ i < 2 ^ 62 := of_decide_eq_true h
theorem rng1_I {f : PLq.Env → Res D} (h : tI K lin W false (fun ρ => (f ρ).bind fun x => ofO (rng1D x)) σ H R) : iRng1 (tAs K lin W fun ρ => (f ρ).bind fun x => (Res.ok []).bind fun xs => .ok (x :: xs)) σ H R := by
  obtain ⟨own, ρ, G, p⟩ := h
  refine stepA G (fun ds vs H1 q s r => ?_) (fun e H1 q s => ?_) fun q => ?_
  · cases q1 : f ρ with
    | exc e => simp [q1] at q
    | stuck => simp [q1] at q
    | ok d =>
      simp only [q1, Res.bind] at p q
      cases q
      cases r with
      | cons r t =>
        cases t
        cases d with
        | int n =>
          simp only [rng1D] at p
          by_cases hb : inB n = true
          · rw [if_pos hb] at p
            cases r
            obtain ⟨b1, b2⟩ := inB_ok hb
            refine ⟨n, rfl, b1, b2, p _ H1 (fun _ => True) (YFn fun i => .int (0 + i)) s (by rw [rngL_len]; exact walk_range) (fun _ _ _ => trivial) fun i d own2 H2 x H3 hd _ s2 y => ?_⟩
            refine at_rng hd ⟨y.1, ?_⟩
            rw [Int.mul_one]; exact y.2
          · rw [if_neg hb] at p; exact p.elim
        | _ => exact p.elim
  · cases q1 : f ρ with
    | exc e' => simp only [q1, Res.bind] at p q; cases q; exact p H1 s
    | stuck => simp [q1] at q
    | ok d => simp [q1] at q
  · cases q1 : f ρ with
    | exc e' => simp [q1] at q
    | stuck => simp only [q1, Res.bind] at p; exact p
    | ok d => simp [q1] at q
theorem rng2_I {f g : PLq.Env → Res D} (h : tI K lin W false (fun ρ => (f ρ).bind fun x => (g ρ).bind fun y => ofO (rng2D x y)) σ H R) :
    iRng2 (tAs K lin W fun ρ => (f ρ).bind fun x => ((g ρ).bind fun y => (Res.ok []).bind fun ys => .ok (y :: ys)).bind fun xs => .ok (x :: xs)) σ H R := by
  obtain ⟨own, ρ, G, p⟩ := h
  refine ⟨own, ρ, G, ?_⟩
  cases q1 : f ρ with
  | exc e => simp only [q1, Res.bind] at p ⊢; exact p
  | stuck => simp only [q1, Res.bind] at p ⊢; exact p
  | ok d =>
    cases q2 : g ρ with
    | exc e => simp only [q1, q2, Res.bind] at p ⊢; exact p
    | stuck => simp only [q1, q2, Res.bind] at p ⊢; exact p
    | ok d2 =>
      simp only [q1, q2, Res.bind] at p ⊢
      intro vs H1 s r
      cases r with
      | cons r t =>
        cases t with
        | cons r' t =>
          cases t
          cases d with
          | int a =>
            cases d2 with
            | int b =>
              simp only [rng2D] at p
              by_cases hb : (inB a && inB b) = true
              · rw [if_pos hb] at p
                cases r; cases r'
                rw [Bool.and_eq_true] at hb
                obtain ⟨b1, b2⟩ := inB_ok hb.1
                obtain ⟨b3, b4⟩ := inB_ok hb.2
                refine ⟨a, b, rfl, ⟨b1, b2, b3, b4⟩, p _ H1 (fun _ => True) (YFn fun i => .int (a + i)) s (by rw [rngL_len]; exact walk_range) (fun _ _ _ => trivial) fun i d own2 H2 x H3 hd _ s2 y => ?_⟩
                refine at_rng hd ⟨y.1, ?_⟩
                rw [Int.mul_one]; exact y.2
              · rw [if_neg hb] at p; exact p.elim
            | _ => exact p.elim
          | _ => exact p.elim
theorem rng3_I {f g k : PLq.Env → Res D} (h : tI K lin W false (fun ρ => (f ρ).bind fun x => (g ρ).bind fun y => (k ρ).bind fun z => ofO (rng3D x y z)) σ H R) :
    iRng3 (tAs K lin W fun ρ => (f ρ).bind fun x => ((g ρ).bind fun y => ((k ρ).bind fun z => (Res.ok []).bind fun zs => .ok (z :: zs)).bind fun ys => .ok (y :: ys)).bind fun xs => .ok (x :: xs)) σ H R := by
  obtain ⟨own, ρ, G, p⟩ := h
  refine ⟨own, ρ, G, ?_⟩
  cases q1 : f ρ with
  | exc e => simp only [q1, Res.bind] at p ⊢; exact p
  | stuck => simp only [q1, Res.bind] at p ⊢; exact p
  | ok d =>
    cases q2 : g ρ with
    | exc e => simp only [q1, q2, Res.bind] at p ⊢; exact p
    | stuck => simp only [q1, q2, Res.bind] at p ⊢; exact p
    | ok d2 =>
      cases q3 : k ρ with
      | exc e => simp only [q1, q2, q3, Res.bind] at p ⊢; exact p
      | stuck => simp only [q1, q2, q3, Res.bind] at p ⊢; exact p
      | ok d3 =>
        simp only [q1, q2, q3, Res.bind] at p ⊢
        intro vs H1 s r
        cases r with
        | cons r t =>
          cases t with
          | cons r' t =>
            cases t with
            | cons r'' t =>
              cases t
              cases d with
              | int a =>
                cases d2 with
                | int b =>
                  cases d3 with
                  | int c =>
                    simp only [rng3D] at p
                    by_cases hb : (decide (c ≠ 0 ∧ c.natAbs < 1073741824) && Builtin.Range.small a b c && decide (0 ≤ Builtin.Range.rangeSize a b c)) = true
                    · rw [if_pos hb] at p
                      cases r; cases r'; cases r''
                      rw [Bool.and_eq_true, Bool.and_eq_true, decide_eq_true_eq, decide_eq_true_eq] at hb
                      obtain ⟨⟨⟨b1, b2⟩, b3⟩, b4⟩ := hb
                      refine ⟨a, b, c, _, rfl, ⟨b1, b2, b3, (Int.toNat_of_nonneg b4).symm⟩, p _ H1 (fun _ => True) (YFn fun i => .int (a + (i : Nat) * c)) s (by rw [rngL_len]; exact walk_rangeC) (fun _ _ _ => trivial) fun i d own2 H2 x H3 hd _ s2 y => at_rng hd y⟩
                    · rw [if_neg hb] at p; exact p.elim
                  | _ => exact p.elim
                | _ => exact p.elim
              | _ => exact p.elim
theorem pairs_get {xs ys : List D} {i : Nat} {d : D} (h : (pairs xs ys)[i]? = some d) : ∃ x y, xs[i]? = some x ∧ ys[i]? = some y ∧ d = .tup [x, y] := by
  unfold pairs at h
  rw [List.getElem?_map, Option.map_eq_some_iff] at h
  obtain ⟨p, h1, rfl⟩ := h
  obtain ⟨h2, h3⟩ := List.getElem?_zip_eq_some.mp h1
  exact ⟨_, _, h2, h3, rfl⟩
theorem pairs_len (xs ys : List D) : (pairs xs ys).length = min xs.length ys.length := by simp [pairs]
theorem at_pair {own2 : List Addr} {H2 H3 : Hp} {xs ys : Nat → Option V} {ds es : List D} {i : Nat} {d : D} {x : V} (tr : ∀ a, a ∈ own2 → ∃ o, H2 a = some o) (hd : (pairs ds es)[i]? = some d) (y : YPair xs ys i H2 x H3)
    (h1 : ∀ d v, ds[i]? = some d → xs i = some v → Rep K (hid own2 H2) v d) (h2 : ∀ d v, es[i]? = some d → ys i = some v → Rep K (hid own2 H2) v d) :
    Same H2 H3 ∧ (true = false → Rep K (hid own2 H3) x d) ∧ IRep K own2 H3 x d := by
  obtain ⟨d1, d2, e1, e2, rfl⟩ := pairs_get hd
  obtain ⟨T, v, w, rfl, hT, rfl, hv, hw⟩ := y
  refine ⟨same_upd hT, fun z => (Bool.noConfusion z), .inr ⟨T, v, w, d1, d2, rfl, upd_same, rfl, (h1 _ _ e1 hv).mono (hid_same_upd hT), (h2 _ _ e2 hw).mono (hid_same_upd hT)⟩⟩
theorem walk_zipT {K : KK} {a b : Addr} {xs ys : List V} {n : Nat} (hn : n = min xs.length ys.length) : Walk (ItzT K a b) n (fun H => SqT K H a xs ∧ SqT K H b ys) (YPair (fun i => xs[i]?) (fun i => ys[i]?)) := by
  subst hn
  refine ⟨fun i _ hi q => ?_, fun _ q => ⟨xs, ys, q.1, q.2, by omega⟩, fun i H v H' _ q y => ?_⟩
  · have h1 : i < xs.length := by omega
    have h2 : i < ys.length := by omega
    exact ⟨xs, ys, xs[i], ys[i], q.1, q.2, by simp [h1], by simp [h2]⟩
  · obtain ⟨T, x, y, h1, h2, h3, h4, h5⟩ := y
    exact ⟨T, x, y, h1, h2, h3, h4 xs q.1, h5 ys q.2⟩
theorem zip_I {f g : PLq.Env → Res D} (h : tI K lin W true (fun ρ => (f ρ).bind fun x => (g ρ).bind fun y => ofO (zipD x y)) σ H R) :
    iZipA K (tAs K lin W fun ρ => (f ρ).bind fun x => ((g ρ).bind fun y => (Res.ok []).bind fun ys => .ok (y :: ys)).bind fun xs => .ok (x :: xs)) σ H R := by
  obtain ⟨own, ρ, G, p⟩ := h
  refine ⟨own, ρ, G, ?_⟩
  cases q1 : f ρ with
  | exc e => simp only [q1, Res.bind] at p ⊢; exact p
  | stuck => simp only [q1, Res.bind] at p ⊢; exact p
  | ok d =>
    cases q2 : g ρ with
    | exc e => simp only [q1, q2, Res.bind] at p ⊢; exact p
    | stuck => simp only [q1, q2, Res.bind] at p ⊢; exact p
    | ok d2 =>
      simp only [q1, q2, Res.bind] at p ⊢
      intro vs H1 s r
      cases r with
      | cons r t =>
        cases t with
        | cons r' t =>
          cases t
          cases d with
          | lst ds =>
            cases d2 with
            | lst es =>
              obtain ⟨a, vs, rfl, ha, ra⟩ := r.lst_
              obtain ⟨b, ws, rfl, hb, rb⟩ := r'.lst_
              refine ⟨a, b, vs, ws, rfl, .inl ⟨.of (hid_le _ _ _ _ ha), .of (hid_le _ _ _ _ hb), p _ H1 (fun H => SqL K H a vs ∧ SqL K H b ws) (YPair (fun i => vs[i]?) (fun i => ws[i]?)) s (walk_zip (by rw [pairs_len, ra.length, rb.length]))
                (fun own2 H2 s2 => ⟨.of (stand s2 ha), .of (stand s2 hb)⟩) fun i d own2 H2 x H3 hd tr s2 y => ?_⟩⟩
              refine at_pair tr hd y (fun d v h1 h2 => ?_) fun d v h1 h2 => ?_
              · obtain ⟨v', h3, h4⟩ := (ra.up s2).get h1
                rw [h3] at h2; cases h2; exact h4
              · obtain ⟨v', h3, h4⟩ := (rb.up s2).get h1
                rw [h3] at h2; cases h2; exact h4
            | _ => exact p.elim
          | tup ds =>
            cases d2 with
            | tup es =>
              obtain ⟨a, vs, oa, rfl, ha, ra⟩ := r.tup_
              obtain ⟨b, ws, ob, rfl, hb, rb⟩ := r'.tup_
              refine ⟨a, b, vs, ws, rfl, .inr ⟨.inl (.inr ⟨oa, hid_le _ _ _ _ ha⟩), .inl (.inr ⟨ob, hid_le _ _ _ _ hb⟩), p _ H1 (fun H => SqT K H a vs ∧ SqT K H b ws) (YPair (fun i => vs[i]?) (fun i => ws[i]?)) s (walk_zipT (by rw [pairs_len, ra.length, rb.length]))
                (fun own2 H2 s2 => ⟨.inl (.inr ⟨oa, stand s2 ha⟩), .inl (.inr ⟨ob, stand s2 hb⟩)⟩) fun i d own2 H2 x H3 hd tr s2 y => ?_⟩⟩
              refine at_pair tr hd y (fun d v h1 h2 => ?_) fun d v h1 h2 => ?_
              · obtain ⟨v', h3, h4⟩ := (ra.up s2).get h1
                rw [h3] at h2; cases h2; exact h4
              · obtain ⟨v', h3, h4⟩ := (rb.up s2).get h1
                rw [h3] at h2; cases h2; exact h4
            | _ => exact p.elim
          | _ => exact p.elim
theorem numsL_get : ∀ (n k i : Nat), (numsL n k)[i]? = if i < n then some (.int ((k + i : Nat) : Int)) else none
  | 0, k, i => by simp [numsL]
  | n + 1, k, i => by
    cases i with
    | zero => simp [numsL]
    | succ i =>
      simp only [numsL, List.getElem?_cons_succ, numsL_get n (k + 1) i]
      by_cases h : i < n
      · rw [if_pos h, if_pos (by omega), show k + 1 + i = k + (i + 1) by omega]
      · rw [if_neg h, if_neg (by omega)]
theorem numsL_len : ∀ n k : Nat, (numsL n k).length = n
  | 0, _ => rfl
  | n + 1, k => by simp [numsL, numsL_len n]
end
theorem RepBs.reps {K : KK} {own : List Addr} {H : Hp} : ∀ {vs : List V} {ds : List D}, RepBs K own H vs ds → Reps K H vs ds
  | _, _, .nil => .nil
  | _, _, .cons r t => .cons r.rep (RepBs.reps t)
theorem Reps.ints_hid {K : KK} {H H' : Hp} : ∀ {vs : List V} {ds : List D} {ns : List Int}, Reps K H vs ds → intsD ds = some ns → Reps K H' vs ds
  | _, [], _, .nil, _ => .nil
  | _, .int i :: ds, ns, .cons r t, e => by
    cases r
    cases q : intsD ds with
    | none => simp only [intsD, q] at e; cases e
    | some ms => exact .cons (.int i) (Reps.ints_hid t q)
theorem callL_E {X : Cx} {ec : Ex → Addr} {W : WX} {lin : List Nat} {σ : L2.St} {H : Hp} {Q : VK} {n : Nat} {F : List D → Res D} {f : PLq.Env → Res (List D)} (hn : ∀ ds, ds.length ≠ n → F ds = .stuck)
    (h : tE X.KK lin (wsh ec W) (fun ρ => (f ρ).bind fun ds => (F ds).bind flatR) σ H Q) : tCallS (spF X.KK ec n F) (WE W) (tAB X.KK lin (wsh ec W) f) σ H Q := by
  obtain ⟨own, ρ, G, p⟩ := h
  refine stepAB G (fun ds vs H1 q s r => ?_) (fun e H1 q s => ?_) fun q => ?_
  · simp only [q, Res.bind] at p
    by_cases hl : ds.length = n
    case neg => rw [hn ds hl] at p; exact p.elim
    refine ⟨[], ds, fun a ha => (by cases ha), by rw [hid_nil]; exact r.reps, hl, ?_⟩
    cases z : F ds with
    | ok d =>
      rw [z] at p
      intro v H' s' r' fr
      rw [hid_nil] at r'
      cases d with
      | lst ys =>
        cases y : intsD ys with
        | none => simp only [Res.bind, flatR, y] at p; exact p.elim
        | some ns =>
          simp only [Res.bind, flatR, y] at p
          refine p v H' (s.trans s') ?_
          obtain ⟨a, ws, rfl, ha, hr⟩ := r'.lst_
          have na := fr a rfl
          have nm : a ∉ own := fun ho => by
            obtain ⟨o, e⟩ := (G.mono s).trk a ho
            rw [na] at e; cases e
          exact .lst (hid_of nm ha) (hr.ints_hid y)
      | _ => exact p.elim
    | exc e => rw [z] at p; exact fun H' s' => p H' (s.trans s')
    | stuck => rw [z] at p; exact p
  · simp only [q, Res.bind] at p
    exact p H1 s
  · simp only [q, Res.bind] at p
    exact p
end PLq
namespace PLq
open PySem PySem.Spec PyProof.Rows L2
theorem nmem2 {x a b : Nat} (h1 : x ≠ a) (h2 : x ≠ b) : x ∉ ([a, b] : List Addr) := fun h => by
  rcases List.mem_cons.mp h with e | e
  · exact h1 e
  · rcases List.mem_cons.mp e with e | e
    · exact h2 e
    · cases e
theorem nmem1 {x a : Nat} (h1 : x ≠ a) : x ∉ ([a] : List Addr) := fun h => by
  rcases List.mem_cons.mp h with e | e
  · exact h1 e
  · cases e
theorem sepM (I a b : Nat) (ha : a < I) (hb : b < I) : ZipSep2 (I + 4) (I + 2) (I + 3) I (I + 1) [I, a] [I + 1, b] :=
  ⟨(by omega : (I + 2 : Nat) ≠ I + 4), (by omega : (I + 3 : Nat) ≠ I + 4), (by omega : (I + 2 : Nat) ≠ I + 3), (by omega : (I + 2 : Nat) ≠ I), List.mem_cons_self, nmem2 (by omega) (by omega), nmem2 (by omega) (by omega), (by omega : (I + 2 : Nat) ≠ I + 1), List.mem_cons_self, nmem2 (by omega) (by omega), nmem2 (by omega) (by omega), nmem2 (by omega) (by omega), nmem2 (by omega) (by omega)⟩
theorem sepS (I : Nat) : ZipSep2 (I + 4) (I + 2) (I + 3) I (I + 1) [I] [I + 1] :=
  ⟨(by omega : (I + 2 : Nat) ≠ I + 4), (by omega : (I + 3 : Nat) ≠ I + 4), (by omega : (I + 2 : Nat) ≠ I + 3), (by omega : (I + 2 : Nat) ≠ I), List.mem_cons_self, nmem1 (by omega), nmem1 (by omega), (by omega : (I + 2 : Nat) ≠ I + 1), List.mem_cons_self, nmem1 (by omega), nmem1 (by omega), nmem1 (by omega), nmem1 (by omega)⟩
def ItzM (K : PySem.W.Frag) (a b : Addr) (n1 n2 : Nat) : L2.It :=
  ⟨fun i H => ∃ (xs ys : List V) (x y : V), SqT K H a xs ∧ SqL K H b ys ∧ xs.length = n1 ∧ ys.length = n2 ∧ xs[i]? = some x ∧ ys[i]? = some y,
    fun i H v H' => ∃ T x y, v = .ref T ∧ H T = none ∧ H' = upd H T (.tup [x, y]) ∧ (∀ xs, SqT K H a xs → xs[i]? = some x) ∧ ∀ ys, SqL K H b ys → ys[i]? = some y,
    fun i H => ∃ xs ys : List V, SqT K H a xs ∧ SqL K H b ys ∧ xs.length = n1 ∧ ys.length = n2 ∧ (n1 ≤ i ∨ n2 ≤ i)⟩
theorem turn_zipM {P : Program} {w : World} {K : PySem.W.Frag} {elts : List Expr} {kk : Nat} {tpos : Pos} {a b z TI TO i1 i2 : Addr} {n1 n2 : Nat} (S : ZipSep2 z TI TO i1 i2 [i1, a] [i2, b]) (ha : a ≠ i1) (hb : b ≠ i2) :
    Turn P w K (.Tuple elts kk tpos) (ItzM K a b n1 n2) [z, TI, TO, i1, i2] z (fun i h => IsZip h z TI TO .none ∧ IsTupOf2 h TI (.ref i1) (.ref i2) ∧ (∃ x y, IsTupOf2 h TO x y) ∧ h.IsTupleIter i1 a i ∧ h.IsListIter i2 b i ∧ i ≤ n1 ∧ i ≤ n2) where
  mem := by simp
  obj := fun i h st c hc => by
    obtain ⟨hz, hTI, ⟨x, y, hTO⟩, ⟨o1, e1, _, d1⟩, ⟨o2, e2, _, d2⟩, _⟩ := st
    have e' : c = z ∨ c = TI ∨ c = TO ∨ c = i1 ∨ c = i2 := by simpa using hc
    rcases e' with q | q | q | q | q
    · rw [q]; exact ⟨_, hz, fun v q => nomatch q⟩
    · rw [q]; exact ⟨_, hTI, fun v q => nomatch q⟩
    · rw [q]; exact ⟨_, hTO, fun v q => nomatch q⟩
    · rw [q]; exact ⟨o1, e1, fun v q => by rw [d1] at q; cases q⟩
    · rw [q]; exact ⟨o2, e2, fun v q => by rw [d2] at q; cases q⟩
  keep := fun i h h' st k => by
    obtain ⟨hz, hTI, ⟨x, y, hTO⟩, h1, h2, l⟩ := st
    exact ⟨k z (by simp) _ hz, k TI (by simp) _ hTI, ⟨x, y, k TO (by simp) _ hTO⟩, h1.at fun o q => k i1 (by simp) o q, h2.at fun o q => k i2 (by simp) o q, l⟩
  item := by
    intro X hP hw hK hc i pins s σ H E I hf st hg
    subst hP hw hK
    obtain ⟨hz, hTI, ⟨x0, y0, hTO⟩, h1, h2, l1, l2⟩ := st
    obtain ⟨xs, ys, x, y, hqx, hqy, n1e, n2e, hx, hy⟩ := hg
    obtain ⟨its, rv, p, _⟩ := I.tuple hqx
    obtain ⟨its2, rv2, p2, _⟩ := I.list hqy
    obtain ⟨u, hu, ru⟩ := rv.get hx
    obtain ⟨u2, hu2, ru2⟩ := rv2.get hy
    have hzl : z < s.heap.objs.size := Heap.lt_size hz
    have pT : s.heap.IsTuple a its.toArray := p
    have q1 := (List.getElem?_eq_some_iff.mp hu).1
    have q2 := (List.getElem?_eq_some_iff.mp hu2).1
    have m1 := rv.length
    have m2 := rv2.length
    refine wpAny_pyNext_zipD2_item S (Draws.tuple (prog := X.prog) (w := X.w) (A := X.A.in1) (I.ok.hd hc) i1 a ha its.toArray) (Draws.list (prog := X.prog) (w := X.w) (A := X.A.in1) (I.ok.hd hc) i2 b hb its2.toArray) hz hTI hTO ⟨h1, pT⟩ ⟨h2, p2.isList⟩ (by simpa using q1) (by simpa using q2) fun v1 v2 h' tk hv1 hv2 z' TO' st1 st2 hT hsz hk => ?_
    have e1 : v1 = u := by
      have q : its[i]? = some v1 := by simpa using hv1
      rw [hu] at q
      exact (Option.some.inj q).symm
    have e2 : v2 = u2 := by
      have q : its2[i]? = some v2 := by simpa using hv2
      rw [hu2] at q
      exact (Option.some.inj q).symm
    subst e1 e2
    refine ⟨_, rfl, wpAny_letOwnedTupleGo_zip (s := { s with heap := h', toks := tk }) z' fun h'' z'' sb => ?_⟩
    have hT2 : h''.get? s.heap.objs.size = some { cls := .type "tuple", data := .seq #[v1, v2] } := (sb.2 _ (Nat.ne_of_gt hzl)).trans hT
    have new : ObjOk X.prog X.w (upd H s.heap.objs.size (.tup [x, y])) h'' s.heap.objs.size (.tup [x, y]) :=
      ⟨by show 2 ≤ sizeLine; decide, [v1, v2], .cons ru (.cons ru2 .nil), ⟨_, hT2, rfl, _, rfl⟩⟩
    have I1 : Inv X pins σ (upd H s.heap.objs.size (.tup [x, y])) { s with heap := h'', toks := tk } :=
      I.turnedNew (t' := tk) (ch := [z, TI, TO, i1, i2]) (fun c o hb q => (sb.2 c (fun q' => hb (by simp [q']))).trans (hk c o (fun q' => hb (by simp [q'])) (fun q' => hb (by simp [q'])) (fun q' => hb (by simp [q'])) (fun q' => hb (by simp [q'])) q)) hf (Nat.le_refl _) new
    refine ⟨.ref s.heap.objs.size, _, I1, rfl, ⟨_, x, y, rfl, I.hok.fresh (Nat.le_refl _), rfl, fun l hl => by rw [I.tuple_inj hl hqx]; exact hx, fun l hl => by rw [I.list_inj hl hqy]; exact hy⟩, ⟨z'', ?_, ⟨v1, v2, ?_⟩, ?_, ?_, by omega, by omega⟩, fun c hcm => ?_⟩
    · exact (sb.2 _ S.TIz).trans (hk _ _ S.TIz S.TITO S.TIi1 S.TIi2 hTI)
    · exact (sb.2 _ S.TOz).trans TO'
    · exact st1.1.at fun o q => (sb.2 _ S.zi1.symm).trans q
    · exact st2.1.at fun o q => (sb.2 _ S.zi2.symm).trans q
    · have hlt : c < s.heap.objs.size := by
        have e' : c = z ∨ c = TI ∨ c = TO ∨ c = i1 ∨ c = i2 := by simpa using hcm
        rcases e' with q | q | q | q | q
        · rw [q]; exact hzl
        · rw [q]; exact Heap.lt_size hTI
        · rw [q]; exact Heap.lt_size hTO
        · rw [q]; obtain ⟨_, e1, _⟩ := h1; exact Heap.lt_size e1
        · rw [q]; obtain ⟨_, e2, _⟩ := h2; exact Heap.lt_size e2
      rw [upd_ne (Nat.ne_of_lt hlt)]
      exact (hf c hcm).1
  done := by
    intro X hP hw hK hc i pins s σ H E I hf st hg
    subst hP hw hK
    obtain ⟨hz, hTI, ⟨x0, y0, hTO⟩, h1, h2, l1, l2⟩ := st
    obtain ⟨xs, ys, hqx, hqy, n1e, n2e, hend⟩ := hg
    obtain ⟨its, rv, p, _⟩ := I.tuple hqx
    obtain ⟨its2, rv2, p2, _⟩ := I.list hqy
    have pT : s.heap.IsTuple a its.toArray := p
    have m1 := rv.length
    have m2 := rv2.length
    exact wpAny_pyNext_zipD2_end S (Draws.tuple (prog := X.prog) (w := X.w) (A := X.A.in1) (I.ok.hd hc) i1 a ha its.toArray) (Draws.list (prog := X.prog) (w := X.w) (A := X.A.in1) (I.ok.hd hc) i2 b hb its2.toArray) hz hTI hTO ⟨h1, pT⟩ ⟨h2, p2.isList⟩ (by simp; omega) (by simp; omega) (by simp; omega) fun h' tk hk => ⟨rfl, I.turnedL (t' := tk) (ch := [z, TI, TO, i1, i2]) (fun c o hb q =>
      hk c o (fun q' => hb (by simp [q'])) (fun q' => hb (by simp [q'])) (fun q' => hb (by simp [q'])) (fun q' => hb (by simp [q'])) q) hf⟩
  self := fun A i s Q E st h => wpAny_pyIter_zip st.1 h
def ItzS (x y : Str) : L2.It :=
  ⟨fun i _ => i < x.cps.size ∧ i < y.cps.size,
    fun i H v H' => ∃ T c d, v = .ref T ∧ H T = none ∧ H' = upd H T (.tup [.str ⟨#[c]⟩, .str ⟨#[d]⟩]) ∧ x.cps[i]? = some c ∧ y.cps[i]? = some d,
    fun i _ => x.cps.size ≤ i ∨ y.cps.size ≤ i⟩
theorem turn_zipS {P : Program} {w : World} {K : PySem.W.Frag} {elts : List Expr} {kk : Nat} {tpos : Pos} {z TI TO i1 i2 : Addr} (x y : Str) (t1 t2 : Tok) (S : ZipSep2 z TI TO i1 i2 [i1] [i2]) :
    Turn P w K (.Tuple elts kk tpos) (ItzS x y) [z, TI, TO, i1, i2] z (fun i h => IsZip h z TI TO .none ∧ IsTupOf2 h TI (.ref i1) (.ref i2) ∧ (∃ x y, IsTupOf2 h TO x y) ∧ h.IsStrIter i1 (strIterType x) x t1 i ∧ h.IsStrIter i2 (strIterType y) y t2 i ∧ i ≤ x.cps.size ∧ i ≤ y.cps.size) where
  mem := by simp
  obj := fun i h st c hc => by
    obtain ⟨hz, hTI, ⟨x, y, hTO⟩, ⟨o1, e1, _, d1⟩, ⟨o2, e2, _, d2⟩, _⟩ := st
    have e' : c = z ∨ c = TI ∨ c = TO ∨ c = i1 ∨ c = i2 := by simpa using hc
    rcases e' with q | q | q | q | q
    · rw [q]; exact ⟨_, hz, fun v q => nomatch q⟩
    · rw [q]; exact ⟨_, hTI, fun v q => nomatch q⟩
    · rw [q]; exact ⟨_, hTO, fun v q => nomatch q⟩
    · rw [q]; exact ⟨o1, e1, fun v q => by rw [d1] at q; cases q⟩
    · rw [q]; exact ⟨o2, e2, fun v q => by rw [d2] at q; cases q⟩
  keep := fun i h h' st k => by
    obtain ⟨hz, hTI, ⟨x, y, hTO⟩, ⟨o1, e1, r1⟩, ⟨o2, e2, r2⟩, l⟩ := st
    exact ⟨k z (by simp) _ hz, k TI (by simp) _ hTI, ⟨x, y, k TO (by simp) _ hTO⟩, ⟨o1, k i1 (by simp) o1 e1, r1⟩, ⟨o2, k i2 (by simp) o2 e2, r2⟩, l⟩
  item := by
    intro X hP hw hK hc i pins s σ H E I hf st hg
    subst hP hw hK
    obtain ⟨hz, hTI, ⟨x0, y0, hTO⟩, h1, h2, l1, l2⟩ := st
    obtain ⟨g1, g2⟩ := hg
    have hzl : z < s.heap.objs.size := Heap.lt_size hz
    refine wpAny_pyNext_zipD2_item S (Draws.text (prog := X.prog) (w := X.w) (A := X.A.in1) (I.ok.hd hc) i1 x t1) (Draws.text (prog := X.prog) (w := X.w) (A := X.A.in1) (I.ok.hd hc) i2 y t2) hz hTI hTO h1 h2 g1 g2 fun v1 v2 h' tk hv1 hv2 z' TO' st1 st2 hT hsz hk => ?_
    obtain ⟨c, k1, hc1, rfl⟩ := hv1
    obtain ⟨d, k2, hd1, rfl⟩ := hv2
    refine ⟨_, rfl, wpAny_letOwnedTupleGo_zip (s := { s with heap := h', toks := tk }) z' fun h'' z'' sb => ?_⟩
    have hT2 : h''.get? s.heap.objs.size = some { cls := .type "tuple", data := .seq #[.str ⟨#[c]⟩ k1, .str ⟨#[d]⟩ k2] } := (sb.2 _ (Nat.ne_of_gt hzl)).trans hT
    have new : ObjOk X.prog X.w (upd H s.heap.objs.size (.tup [.str ⟨#[c]⟩, .str ⟨#[d]⟩])) h'' s.heap.objs.size (.tup [.str ⟨#[c]⟩, .str ⟨#[d]⟩]) :=
      ⟨by show 2 ≤ sizeLine; decide, [.str ⟨#[c]⟩ k1, .str ⟨#[d]⟩ k2], .cons ⟨_, rfl⟩ (.cons ⟨_, rfl⟩ .nil), ⟨_, hT2, rfl, _, rfl⟩⟩
    have I1 : Inv X pins σ (upd H s.heap.objs.size (.tup [.str ⟨#[c]⟩, .str ⟨#[d]⟩])) { s with heap := h'', toks := tk } :=
      I.turnedNew (t' := tk) (ch := [z, TI, TO, i1, i2]) (fun c o hb q => (sb.2 c (fun q' => hb (by simp [q']))).trans (hk c o (fun q' => hb (by simp [q'])) (fun q' => hb (by simp [q'])) (fun q' => hb (by simp [q'])) (fun q' => hb (by simp [q'])) q)) hf (Nat.le_refl _) new
    refine ⟨.ref s.heap.objs.size, _, I1, rfl, ⟨_, c, d, rfl, I.hok.fresh (Nat.le_refl _), rfl, hc1, hd1⟩, ⟨z'', ?_, ⟨.str ⟨#[c]⟩ k1, .str ⟨#[d]⟩ k2, ?_⟩, ?_, ?_, by omega, by omega⟩, fun c hcm => ?_⟩
    · exact (sb.2 _ S.TIz).trans (hk _ _ S.TIz S.TITO S.TIi1 S.TIi2 hTI)
    · exact (sb.2 _ S.TOz).trans TO'
    · obtain ⟨o, e, r⟩ := st1
      exact ⟨o, (sb.2 _ S.zi1.symm).trans e, r⟩
    · obtain ⟨o, e, r⟩ := st2
      exact ⟨o, (sb.2 _ S.zi2.symm).trans e, r⟩
    · have hlt : c < s.heap.objs.size := by
        have e' : c = z ∨ c = TI ∨ c = TO ∨ c = i1 ∨ c = i2 := by simpa using hcm
        rcases e' with q | q | q | q | q
        · rw [q]; exact hzl
        · rw [q]; exact Heap.lt_size hTI
        · rw [q]; exact Heap.lt_size hTO
        · rw [q]; obtain ⟨_, e1, _⟩ := h1; exact Heap.lt_size e1
        · rw [q]; obtain ⟨_, e2, _⟩ := h2; exact Heap.lt_size e2
      rw [upd_ne (Nat.ne_of_lt hlt)]
      exact (hf c hcm).1
  done := by
    intro X hP hw hK hc i pins s σ H E I hf st hg
    subst hP hw hK
    obtain ⟨hz, hTI, ⟨x0, y0, hTO⟩, h1, h2, l1, l2⟩ := st
    exact wpAny_pyNext_zipD2_end S (Draws.text (prog := X.prog) (w := X.w) (A := X.A.in1) (I.ok.hd hc) i1 x t1) (Draws.text (prog := X.prog) (w := X.w) (A := X.A.in1) (I.ok.hd hc) i2 y t2) hz hTI hTO h1 h2 l1 l2 (hg.elim (fun h => .inl (by omega)) fun h => .inr (by omega)) fun h' tk hk => ⟨rfl, I.turnedL (t' := tk) (ch := [z, TI, TO, i1, i2]) (fun c o hb q =>
      hk c o (fun q' => hb (by simp [q'])) (fun q' => hb (by simp [q'])) (fun q' => hb (by simp [q'])) (fun q' => hb (by simp [q'])) q) hf⟩
  self := fun A i s Q E st h => wpAny_pyIter_zip st.1 h
theorem fresh5 {X : Cx} {pins : List (Addr × Obj)} {σ : L2.St} {H : Hp} {s : Shared} (I : Inv X pins σ H s) : ∀ c, c ∈ [s.heap.objs.size + 4, s.heap.objs.size + 2, s.heap.objs.size + 3, s.heap.objs.size, s.heap.objs.size + 1] → FpOk X pins H c := fun c hcm => by
  have e' : c = s.heap.objs.size + 4 ∨ c = s.heap.objs.size + 2 ∨ c = s.heap.objs.size + 3 ∨ c = s.heap.objs.size ∨ c = s.heap.objs.size + 1 := by simpa using hcm
  have hle : s.heap.objs.size ≤ c := by
    rcases e' with z | z | z | z | z
    · rw [z]; exact Nat.le_add_right _ _
    · rw [z]; exact Nat.le_add_right _ _
    · rw [z]; exact Nat.le_add_right _ _
    · rw [z]; exact Nat.le_refl _
    · rw [z]; exact Nat.le_add_right _ _
  exact I.fpOk hle (I.hok.fresh hle)
def iZipM (K : PySem.W.Frag) (ta : TA) : TI := fun σ H R => ta σ H fun vs H1 => ∃ a b xs ys, vs = [.ref a, .ref b] ∧ SqT K H1 a xs ∧ SqL K H1 b ys ∧ R (ItzM K a b xs.length ys.length) H1
def iZipS (ta : TA) : TI := fun σ H R => ta σ H fun vs H1 => ∃ x y, vs = [.str x, .str y] ∧ R (ItzS x y) H1
section
variable {X : Cx} {e e2 : Expr} {ta : TA} {p pos tpos : Pos} {elts : List Expr} {kk : Nat} (hg : Gl X "zip") (hm : X.mg "zip" = none) (ha : PA X [e, e2] ta)
    (hs : starEach [e, e2] X.env = (false, eval e X.env) :: starEach [e2] X.env) (hpl : (backTo pos (starEach [e2] X.env)).any (·.1) = false)
include hg hm ha hs hpl
theorem pi_zipM : PI X (.Tuple elts kk tpos) (.Call (.Name "zip" p) [e, e2] [] pos) (iZipM X.K ta) := by
  refine ⟨fun pins s σ H R I h => ?_⟩
  refine Call_ (ld_blt I hg hm PyProof.Rows.boot_zip (PyProof.Rows.callWith_type1 (thn (ha.run pos pins s σ H _ I h) fun us s1 ⟨vs, H1, I1, r1, q1⟩ => ?_) hs hpl))
  obtain ⟨a, b, xs, ys, ex, hqx, hqy, q⟩ := q1
  subst ex
  cases r1 with
  | cons r rr =>
    cases rr with
    | cons r' rr =>
      cases rr
      cases r
      cases r'
      obtain ⟨its, rv, p1, _⟩ := I1.tuple hqx
      obtain ⟨its2, rv2, p2, _⟩ := I1.list hqy
      have pT : s1.heap.IsTuple a its.toArray := p1
      obtain ⟨o1, ho1, _⟩ := id pT
      have la : a < s1.heap.objs.size := Heap.lt_size ho1
      have lb : b < s1.heap.objs.size := p2.lt
      refine zip_begins2 (begins_tuple a its.toArray) (begins_list b its2.toArray) pT p2.isList fun h' hz hTI hTO g1 g2 hsz hk => wpAny_pyIter_zip hz ?_
      have I2 : Inv X pins σ H1 { s1 with heap := h' } := I1.kept (t' := s1.toks) hk
      exact ⟨s1.heap.objs.size + 4, [s1.heap.objs.size + 4, s1.heap.objs.size + 2, s1.heap.objs.size + 3, s1.heap.objs.size, s1.heap.objs.size + 1], _, _, H1, rfl, I2, turn_zipM (sepM _ _ _ la lb) (Nat.ne_of_lt la) (Nat.ne_of_lt (Nat.lt_succ_of_lt lb)), ⟨hz, hTI, ⟨_, _, hTO⟩, ⟨_, g1, rfl, rfl⟩, ⟨_, g2, rfl, rfl⟩, Nat.zero_le _, Nat.zero_le _⟩, fresh5 I1, q⟩
theorem pi_zipS : PI X (.Tuple elts kk tpos) (.Call (.Name "zip" p) [e, e2] [] pos) (iZipS ta) := by
  refine ⟨fun pins s σ H R I h => ?_⟩
  refine Call_ (ld_blt I hg hm PyProof.Rows.boot_zip (PyProof.Rows.callWith_type1 (thn (ha.run pos pins s σ H _ I h) fun us s1 ⟨vs, H1, I1, r1, q1⟩ => ?_) hs hpl))
  obtain ⟨x, y, ex, q⟩ := q1
  subst ex
  cases r1 with
  | cons r rr =>
    cases rr with
    | cons r' rr =>
      cases rr
      obtain ⟨t1, rfl⟩ := r
      obtain ⟨t2, rfl⟩ := r'
      refine zip_begins2 (begins_text x t1) (begins_text y t2) trivial trivial fun h' hz hTI hTO g1 g2 hsz hk => wpAny_pyIter_zip hz ?_
      have I2 : Inv X pins σ H1 { s1 with heap := h' } := I1.kept (t' := s1.toks) hk
      exact ⟨s1.heap.objs.size + 4, [s1.heap.objs.size + 4, s1.heap.objs.size + 2, s1.heap.objs.size + 3, s1.heap.objs.size, s1.heap.objs.size + 1], _, _, H1, rfl, I2, turn_zipS x y t1 t2 (sepS _), ⟨hz, hTI, ⟨_, _, hTO⟩, ⟨_, g1, rfl, rfl⟩, ⟨_, g2, rfl, rfl⟩, Nat.zero_le _, Nat.zero_le _⟩, fresh5 I1, q⟩
end
theorem walk_zipM {K : PySem.W.Frag} {a b : Addr} {xs ys : List V} {n : Nat} (hn : n = min xs.length ys.length) : Walk (ItzM K a b xs.length ys.length) n (fun H => SqT K H a xs ∧ SqL K H b ys) (YPair (fun i => xs[i]?) (fun i => ys[i]?)) := by
  subst hn
  refine ⟨fun i _ hi q => ?_, fun _ q => ⟨xs, ys, q.1, q.2, rfl, rfl, by omega⟩, fun i H v H' _ q y => ?_⟩
  · have h1 : i < xs.length := by omega
    have h2 : i < ys.length := by omega
    exact ⟨xs, ys, xs[i], ys[i], q.1, q.2, rfl, rfl, by simp [h1], by simp [h2]⟩
  · obtain ⟨T, x, y, h1, h2, h3, h4, h5⟩ := y
    exact ⟨T, x, y, h1, h2, h3, h4 xs q.1, h5 ys q.2⟩
theorem walk_zipS {x y : Str} {n : Nat} (hn : n = min x.cps.size y.cps.size) : Walk (ItzS x y) n (fun _ => True) (YPair (fun i => x.cps[i]?.map fun c => V.str ⟨#[c]⟩) (fun i => y.cps[i]?.map fun c => V.str ⟨#[c]⟩)) := by
  subst hn
  refine ⟨fun i _ hi _ => ⟨by omega, by omega⟩, fun _ _ => by show _ ∨ _; omega, fun i H v H' _ _ q => ?_⟩
  obtain ⟨T, c, d, h1, h2, h3, h4, h5⟩ := q
  exact ⟨T, _, _, h1, h2, h3, by simp only [h4, Option.map_some], by simp only [h5, Option.map_some]⟩
section
variable {K : KK} {lin : List Nat} {W : Wsh} {σ : L2.St} {H : Hp} {R : L2.It → Hp → Prop}
theorem zip_IB {f g : PLq.Env → Res D} (h : tI K lin W true (fun ρ => (f ρ).bind fun x => (g ρ).bind fun y => ofO (zipB x y)) σ H R) :
    RZ.iZipA K (tAs K lin W fun ρ => (f ρ).bind fun x => ((g ρ).bind fun y => (Res.ok []).bind fun ys => .ok (y :: ys)).bind fun xs => .ok (x :: xs)) σ H R ∨
    (iZipM K (tAs K lin W fun ρ => (f ρ).bind fun x => ((g ρ).bind fun y => (Res.ok []).bind fun ys => .ok (y :: ys)).bind fun xs => .ok (x :: xs)) σ H R ∨
    iZipS (tAs K lin W fun ρ => (f ρ).bind fun x => ((g ρ).bind fun y => (Res.ok []).bind fun ys => .ok (y :: ys)).bind fun xs => .ok (x :: xs)) σ H R) := by
  obtain ⟨own, ρ, G, p⟩ := h
  cases q1 : f ρ with
  | exc e =>
    refine .inl ⟨own, ρ, G, ?_⟩
    simp only [q1, Res.bind] at p ⊢; exact p
  | stuck =>
    refine .inl ⟨own, ρ, G, ?_⟩
    simp only [q1, Res.bind] at p ⊢; exact p
  | ok d =>
    cases q2 : g ρ with
    | exc e =>
      refine .inl ⟨own, ρ, G, ?_⟩
      simp only [q1, q2, Res.bind] at p ⊢; exact p
    | stuck =>
      refine .inl ⟨own, ρ, G, ?_⟩
      simp only [q1, q2, Res.bind] at p ⊢; exact p
    | ok d2 =>
      have old : zipB d d2 = zipD d d2 → RZ.iZipA K (tAs K lin W fun ρ => (f ρ).bind fun x => ((g ρ).bind fun y => (Res.ok []).bind fun ys => .ok (y :: ys)).bind fun xs => .ok (x :: xs)) σ H R := fun z => by
        refine zip_I ⟨own, ρ, G, ?_⟩
        simp only [q1, q2, Res.bind] at p ⊢
        rw [z] at p; exact p
      cases d with
      | tup ds =>
        cases d2 with
        | lst es =>
          refine .inr (.inl ⟨own, ρ, G, ?_⟩)
          simp only [q1, q2, Res.bind] at p ⊢
          intro vs H1 s r
          cases r with
          | cons r t =>
            cases t with
            | cons r' t =>
              cases t
              obtain ⟨a, vs, oa, rfl, ha, ra⟩ := r.tup_
              obtain ⟨b, ws, rfl, hb, rb⟩ := r'.lst_
              refine ⟨a, b, vs, ws, rfl, .inl (.inr ⟨oa, hid_le _ _ _ _ ha⟩), .of (hid_le _ _ _ _ hb), p _ H1 (fun H => SqT K H a vs ∧ SqL K H b ws) (YPair (fun i => vs[i]?) (fun i => ws[i]?)) s (walk_zipM (by rw [pairs_len, ra.length, rb.length]))
                (fun own2 H2 s2 => ⟨.inl (.inr ⟨oa, stand s2 ha⟩), .of (stand s2 hb)⟩) fun i d own2 H2 x H3 hd tr s2 y => ?_⟩
              refine at_pair tr hd y (fun d v h1 h2 => ?_) fun d v h1 h2 => ?_
              · obtain ⟨v', h3, h4⟩ := (ra.up s2).get h1
                rw [h3] at h2; cases h2; exact h4
              · obtain ⟨v', h3, h4⟩ := (rb.up s2).get h1
                rw [h3] at h2; cases h2; exact h4
        | _ => exact .inl (old rfl)
      | str x =>
        cases d2 with
        | str y =>
          refine .inr (.inr ⟨own, ρ, G, ?_⟩)
          simp only [q1, q2, Res.bind] at p ⊢
          intro vs H1 s r
          cases r with
          | cons r t =>
            cases t with
            | cons r' t =>
              cases t
              cases r
              cases r'
              have ch : ∀ {x : T} {i : Nat} {d : D} {v : V} {own2 : List Addr} {H2 : Hp}, (x.map fun c => D.str [c])[i]? = some d → ((mkS x).cps[i]?.map fun c => V.str ⟨#[c]⟩) = some v → Rep K (hid own2 H2) v d := fun {x i d v own2 H2} h1 h2 => by
                rw [List.getElem?_map] at h1
                have e : (mkS x).cps[i]? = x[i]? := by simp [mkS]
                rw [e] at h2
                cases z : x[i]? with
                | none => rw [z] at h1; cases h1
                | some c =>
                  rw [z] at h1 h2
                  cases h1; cases h2
                  exact .str [c]
              refine ⟨mkS x, mkS y, rfl, p _ H1 (fun _ => True) (YPair (fun i => (mkS x).cps[i]?.map fun c => V.str ⟨#[c]⟩) (fun i => (mkS y).cps[i]?.map fun c => V.str ⟨#[c]⟩)) s (walk_zipS (by rw [pairs_len, List.length_map, List.length_map]; simp [mkS])) (fun _ _ _ => trivial) fun i d own2 H2 v H3 hd tr s2 yy => ?_⟩
              exact at_pair tr hd yy (fun d v h1 h2 => ch h1 h2) fun d v h1 h2 => ch h1 h2
        | _ => exact .inl (old rfl)
      | _ => exact .inl (old rfl)
end
end PLq
namespace PLq
open PySem L2
open RZ (ItzT iZipA pi_zipA)
theorem hid_more {own : List Addr} {H1 H2 : Hp} {p : Addr} (hp : H1 p = none) (s : Same H1 H2) : Same (hid own H1) (hid (p :: own) H2) := fun a o h => by
  obtain ⟨h1, h2⟩ := hid_get h
  refine hid_of (fun z => ?_) (s a o h2)
  rcases List.mem_cons.mp z with rfl | z
  · rw [hp] at h2; cases h2
  · exact h1 z
theorem Gd.more {K : KK} {own : List Addr} {lin : List Nat} {σ : L2.St} {H H2 : Hp} {ρ : PLq.Env} {p : Addr} {o : HO} (g : Gd K own lin σ H ρ) (hp : H p = none) (s : Same H H2) (ho : H2 p = some o) : Gd K (p :: own) lin σ H2 ρ where
  len := g.len
  val := fun i d h hl => let ⟨v, h1, h2⟩ := g.val i d h hl; ⟨v, h1, h2.mono (hid_more hp s)⟩
  lob := fun i d h hl => let ⟨a, o, h1, h2, h3, h4⟩ := g.lob i d h hl; ⟨a, o, h1, List.mem_cons_of_mem _ h2, s _ _ h3, h4.mono (hid_more hp s)⟩
  sep := g.sep
  trk := fun a h => by
    rcases List.mem_cons.mp h with rfl | h
    · exact ⟨o, ho⟩
    · obtain ⟨o', q⟩ := g.trk a h; exact ⟨o', s _ _ q⟩
theorem lcR_cons {tg : Tg} {c e : PLq.Env → Res D} {ρ : PLq.Env} (d : D) (ds : List D) : lcR tg c e ρ (d :: ds) = match assignTg tg d ρ with
    | none => .stuck
    | some ρ1 => match c ρ1 with
      | .ok (.bl true) => (match e ρ1 with
        | .ok y => (lcR tg c e ρ ds).bind fun ys => .ok (y :: ys)
        | .exc x => .exc x
        | .stuck => .stuck)
      | .ok (.bl false) => lcR tg c e ρ ds
      | _ => .stuck := rfl
theorem bind_app (r : Res (List D)) (zs : List D) (y : D) : ((r.bind fun ys => .ok (y :: ys)).bind fun ws => .ok (zs ++ ws) : Res (List D)) = r.bind fun ws => .ok ((zs ++ [y]) ++ ws) := by
  cases r <;> simp
theorem lc_F {K : KK} {lin : List Nat} {W W0 : Wsh} {σ : L2.St} {H : Hp} {Q : VK} {items : PLq.Env → Res (List D)} {c e : PLq.Env → Res D} {tg : Tg} {vs : List Nat} {pr : Bool} {tt : TT}
    (hf : tgFree lin tg) (hin : tgIn vs tg = true) (hp : pr = true → ∃ a b, tg = .tup2 a b) {Wt : Wsh} (htt : ∀ σ H Q, tT K lin Wt c σ H Q → tt σ H Q) (hW : ∀ x σ' H', W x σ H' → W0 x σ' H')
    (h : tF K lin W (fun ρ => (items ρ).bind fun ds => if ds.length ≤ szL then (lcR tg c e (wipeD ρ vs) ds).bind fun ys => .ok (.lst ys) else .stuck) σ H Q) :
    tLc (tI K lin W pr items) (rdTg K tg) tt (tE K lin W0 e) vs σ H Q := by
  obtain ⟨own, ρ, G, p⟩ := h
  refine ⟨own, ρ, G, ?_⟩
  cases q : items ρ with
  | exc x => simp only [q, Res.bind] at p; exact p
  | stuck => simp only [q, Res.bind] at p; exact p
  | ok ds =>
    simp only [q, Res.bind] at p
    intro J H1 G' Y s w hG hY D hD
    by_cases hl : ds.length ≤ szL
    case neg => rw [if_neg hl] at p; exact p.elim
    rw [if_pos hl] at p
    have nD : H D = none := Same.free s hD
    refine lc_it w (fun i H2 => ∃ us zs, H2 D = some (.lst us) ∧ Same H1 H2 ∧ Reps K (hid (D :: own) H2) us zs ∧ (lcR tg c e (wipeD ρ vs) ds = (lcR tg c e (wipeD ρ vs) (ds.drop i)).bind fun ws => .ok (zs ++ ws)) ∧ zs.length ≤ i) ?_ ?_ ?_ ?_
    · refine ⟨[], [], upd_same, same_upd hD, .nil, ?_, Nat.le_refl _⟩
      rw [List.drop_zero]
      cases lcR tg c e (wipeD ρ vs) ds <;> rfl
    · rintro i H2 _ ⟨us, zs, h1, h2, _⟩
      exact hG (D :: own) H2 (hid_more hD h2)
    · rintro i x H2 H3 hi ⟨us, zs, h1, h2, h3, h4, h6⟩ y
      have hd : ds[i]? = some ds[i] := List.getElem?_eq_getElem hi
      have G2 : Gd K (D :: own) lin (wipe σ vs) H2 (wipeD ρ vs) := (G.wipe vs).more nD (s.trans h2) h1
      obtain ⟨s3, r3, r4⟩ := hY i _ (D :: own) H2 x H3 hd G2.trk (hid_more hD h2) y
      rw [List.drop_eq_getElem_cons hi, lcR_cons] at h4
      cases ea : assignTg tg ds[i] (wipeD ρ vs) with
      | none =>
        rw [ea] at h4
        simp only [Res.bind] at h4
        rw [h4] at p; exact p.elim
      | some ρ1 =>
        rw [ea] at h4
        simp only at h4
        refine tg_irep tg hf (G2.mono s3) r4 ?_ ea fun σ1 g1 s1 => ⟨?_, htt _ _ _ ⟨D :: own, ρ1, g1, ?_⟩⟩
        · cases pr with
          | true => exact .inr (hp rfl)
          | false => exact .inl (r3 rfl)
        · rw [wipe_sets (tgIn_P tg hin) s1, wipe_wipe]
        · cases ec : c ρ1 with
          | exc _ => rw [ec] at h4; simp only [Res.bind] at h4; rw [h4] at p; exact p.elim
          | stuck => rw [ec] at h4; simp only [Res.bind] at h4; rw [h4] at p; exact p.elim
          | ok k =>
            rw [ec] at h4
            cases k with
            | bl b =>
              intro H5 s5
              cases b with
              | false =>
                rw [if_neg Bool.false_ne_true]
                simp only at h4
                exact ⟨us, zs, s5 _ _ (s3 _ _ h1), (h2.trans s3).trans s5, (h3.mono (hid_same s3)).mono (hid_same s5), h4, by omega⟩
              | true =>
                rw [if_pos rfl]
                simp only at h4
                refine ⟨D :: own, ρ1, g1.mono s5, ?_⟩
                cases ee : e ρ1 with
                | exc x =>
                  rw [ee] at h4
                  simp only [Res.bind] at h4
                  rw [h4] at p
                  intro H6 s6
                  refine hW x _ H6 (p H6 fun b ob hb => ?_)
                  exact s6 _ _ (s5 _ _ (s3 _ _ (h2 _ _ (s _ _ hb))))
                | stuck => rw [ee] at h4; simp only [Res.bind] at h4; rw [h4] at p; exact p.elim
                | ok y =>
                  rw [ee] at h4
                  simp only at h4
                  rw [bind_app] at h4
                  intro v H6 s6 r6
                  have hD6 : H6 D = some (.lst us) := s6 _ _ (s5 _ _ (s3 _ _ h1))
                  refine ⟨us, hD6, by rw [h3.length, ← szL_eq]; omega, us ++ [v], zs ++ [y], upd_same, fun b o hb => ?_, ?_, h4, by rw [List.length_append]; simp; omega⟩
                  · have ne : b ≠ D := ne_of_none hb hD
                    rw [upd_ne ne]
                    exact s6 _ _ (s5 _ _ (s3 _ _ (h2 _ _ hb)))
                  · rw [hid_upd List.mem_cons_self]
                    exact (((h3.mono (hid_same s3)).mono (hid_same s5)).mono (hid_same s6)).app (.cons r6 .nil)
            | _ => simp only [Res.bind] at h4; rw [h4] at p; exact p.elim
    · rintro H2 ⟨us, zs, h1, h2, h3, h4, h6⟩
      rw [List.drop_length] at h4
      simp only [lcR, Res.bind, List.append_nil] at h4
      rw [h4] at p
      refine p D (.lst us) (fun b => if b = D then none else H2 b) H2 (fun b o hb => ?_) (if_pos rfl) ?_ (.lst (h3.mono fun b o hb => ?_))
      · have ne : b ≠ D := ne_of_none hb nD
        show (if b = D then none else H2 b) = some o
        rw [if_neg ne]; exact h2 _ _ (s _ _ hb)
      · funext b
        unfold upd
        by_cases hb : b = D
        · rw [if_pos hb, hb]; exact h1
        · rw [if_neg hb]
          show H2 b = if b = D then none else H2 b
          rw [if_neg hb]
      · obtain ⟨z1, z2⟩ := hid_get hb
        have ne : b ≠ D := fun z => z1 (z ▸ List.mem_cons_self)
        refine hid_of (fun z => z1 (List.mem_cons_of_mem _ z)) ?_
        show (if b = D then none else H2 b) = some o
        rw [if_neg ne]; exact z2
section
variable {K : KK} {lin : List Nat} {W : Wsh} {σ : L2.St} {H : Hp} {Q : Bool → Hp → Prop}
theorem tT_mono {f : PLq.Env → Res D} {Q Q' : Bool → Hp → Prop} (i : ∀ b H, Q b H → Q' b H) (h : tT K lin W f σ H Q) : tT K lin W f σ H Q' := by
  obtain ⟨own, ρ, G, p⟩ := h
  refine ⟨own, ρ, G, ?_⟩
  cases q : f ρ with
  | ok d =>
    rw [q] at p
    cases d with
    | bl b => exact fun H' s => i _ _ (p H' s)
    | _ => exact p.elim
  | exc e => rw [q] at p; exact p
  | stuck => rw [q] at p; exact p
theorem and_T {f g : PLq.Env → Res D} (h : tT K lin W (fun ρ => tst (f ρ) fun k => if k then tst (g ρ) fun k2 => .ok (.bl k2) else .ok (.bl false)) σ H Q) : L2.tAnd (tT K lin W f) (tT K lin W g) σ H Q := by
  refine tT_mono (fun b H1 h1 => ?_) (tst_T h)
  cases b with
  | true => rw [if_pos rfl]; exact bl_T h1
  | false => rw [if_neg Bool.false_ne_true]; exact okb_T h1
theorem or_T {f g : PLq.Env → Res D} (h : tT K lin W (fun ρ => tst (f ρ) fun k => if k then .ok (.bl true) else tst (g ρ) fun k2 => .ok (.bl k2)) σ H Q) : L2.tOr (tT K lin W f) (tT K lin W g) σ H Q := by
  refine tT_mono (fun b H1 h1 => ?_) (tst_T h)
  cases b with
  | true => rw [if_pos rfl]; exact okb_T h1
  | false => rw [if_neg Bool.false_ne_true]; exact bl_T h1
theorem not_T {f : PLq.Env → Res D} (h : tT K lin W (fun ρ => tst (f ρ) fun k => .ok (.bl (!k))) σ H Q) : L2.tNot (tT K lin W f) σ H Q := by
  refine tT_mono (fun b H1 h1 => ?_) (tst_T h)
  exact okb_T h1
theorem ite_E {c a b : PLq.Env → Res D} {Q : VK} (h : tE K lin W (fun ρ => tst (c ρ) fun k => if k then a ρ else b ρ) σ H Q) : tIf (tT K lin W c) (tE K lin W a) (tE K lin W b) σ H Q := by
  obtain ⟨own, ρ, G, p⟩ := h
  refine ⟨own, ρ, G, ?_⟩
  cases q : c ρ with
  | exc e => simp only [tst, q, Res.bind] at p; exact p
  | stuck => simp only [tst, q, Res.bind] at p; exact p
  | ok d =>
    simp only [tst, q, Res.bind] at p
    cases d with
    | bl k =>
      intro H1 s
      cases k with
      | true =>
        rw [if_pos rfl]
        have p : postE K W own σ H Q (a ρ) := p
        refine ⟨own, ρ, G.mono s, ?_⟩
        cases z : a ρ with
        | ok d => rw [z] at p; exact fun v H' s' r => p v H' (s.trans s') r
        | exc e => rw [z] at p; exact fun H' s' => p H' (s.trans s')
        | stuck => rw [z] at p; exact p
      | false =>
        rw [if_neg Bool.false_ne_true]
        have p : postE K W own σ H Q (b ρ) := p
        refine ⟨own, ρ, G.mono s, ?_⟩
        cases z : b ρ with
        | ok d => rw [z] at p; exact fun v H' s' r => p v H' (s.trans s') r
        | exc e => rw [z] at p; exact fun H' s' => p H' (s.trans s')
        | stuck => rw [z] at p; exact p
    | _ => exact p.elim
end
end PLq
namespace PLq
open PySem L2
theorem RepO.alk {K : KK} {H H' : Hp} (e : Alk H H') {a : Addr} {o : HO} {d : D} : RepO K H a o d → RepO K H' a o d
  | .lst r => .lst (r.alk e)
  | .dk r => .dk (r.alk e)
  | .dkT r => .dkT (r.alk e)
theorem Gd.lock {K : KK} {own : List Addr} {lin : List Nat} {σ : L2.St} {H : Hp} {ρ : PLq.Env} {d : Addr} {kvs : List (Key × V)} (od : Obj) (g : Gd K own lin σ H ρ) (h : H d = some (.dK kvs)) (hd : d ∉ own) : Gd K own lin σ (upd H d (.frz od (.dK kvs))) ρ where
  len := g.len
  val := fun i e hi hl => let ⟨v, h1, h2⟩ := g.val i e hi hl; ⟨v, h1, h2.alk ((Alk.lock od h).hid own)⟩
  lob := fun i e hi hl => by
    obtain ⟨a, o, h1, h2, h3, h4⟩ := g.lob i e hi hl
    have ne : a ≠ d := fun z => hd (z ▸ h2)
    exact ⟨a, o, h1, h2, by rw [upd_ne ne]; exact h3, h4.alk ((Alk.lock od h).hid own)⟩
  sep := g.sep
  trk := fun a ha => by
    obtain ⟨o, q⟩ := g.trk a ha
    have ne : a ≠ d := fun z => hd (z ▸ ha)
    exact ⟨o, by rw [upd_ne ne]; exact q⟩
theorem repK_keys {K : KK} {H : Hp} : ∀ {kvs : List (Key × V)} {ds : List (D × D)}, RepK K H kvs ds → ∀ (i : Nat) (k : Key) (v : V) (e : D), kvs[i]? = some (k, v) → (ds.map (·.1))[i]? = some e → ∀ H', Rep K H' (kV k) e
  | _, _, .nil, i, k, v, e, h1, h2, H' => by simp at h1
  | _, _, .cons (x := x) q r t, 0, k, v, e, h1, h2, H' => by
    simp only [List.getElem?_cons_zero, Option.some.injEq, Prod.mk.injEq, List.map_cons] at h1 h2
    obtain ⟨rfl, _⟩ := h1
    subst h2
    cases x with
    | int n => simp only [keyD, Option.some.injEq] at q; subst q; exact .int n
    | str y => simp only [keyD, Option.some.injEq] at q; subst q; exact .str y
    | _ => cases q
  | _, _, .cons q r t, i + 1, k, v, e, h1, h2, H' => repK_keys t i k v e (by simpa using h1) (by simpa using h2) H'
theorem RepK.length {K : KK} {H : Hp} : ∀ {kvs : List (Key × V)} {ds : List (D × D)}, RepK K H kvs ds → kvs.length = ds.length
  | _, _, .nil => rfl
  | _, _, .cons _ _ t => congrArg Nat.succ (RepK.length t)
theorem keys_I {K : KK} {lin : List Nat} {W : Wsh} {σ : L2.St} {H : Hp} {R : L2.It → Hp → Prop} {i : Nat} {d : Addr} {od : Obj} {kvs : List (Key × V)} (hl : i ∉ lin) (hs : σ[i]? = some (some (.ref d))) (hH : H d = some (.frz od (.dK kvs)))
    (h : tI K lin W false (fun ρ => keysD ρ i) σ H R) : iKeys (tVar i) σ H R := by
  obtain ⟨own, ρ, G, p⟩ := h
  refine ⟨_, hs, d, od, rfl, .inl ⟨kvs, hH, ?_⟩⟩
  have p : postI K W own σ H false R (keysD ρ i) := p
  unfold keysD at p
  split at p
  · rename_i ds e
    obtain ⟨v, h1, h2⟩ := G.val i _ e hl
    rw [hs] at h1
    cases h1
    cases h2 with
    | dk hr rk =>
      rename_i ks0
      have hh : hid own H d = some (.frz od (.dK kvs)) := by
        rcases hr with q | ⟨o, q⟩
        · have := (hid_get q).2; rw [hH] at this; cases this
        · have := (hid_get q).2; rw [hH] at this; cases this; exact q
      have hr' : Rd H d (.dK _) := rd_mono (hid_le own H) hr
      have ek : ∀ {ks}, Rd H d (.dK ks) → ks = kvs := fun {ks} z => by
        rcases z with z | ⟨o, z⟩
        · rw [hH] at z; cases z
        · rw [hH] at z; cases z; rfl
      have := ek hr'
      subst this
      refine p _ H (fun H => H d = some (.frz od (.dK ks0))) (fun i H x H' => H' = H ∧ ∃ k v, ks0[i]? = some (k, v) ∧ x = kV k) (Same.refl _) ?_ (fun own2 H2 s2 => hid_le _ _ _ _ (s2 _ _ hh)) fun j e own2 H2 x H3 he _ s2 y => ?_
      · have w := walk_keys (d := d) (o := od) (kvs := ks0)
        rw [RepK.length rk] at w
        rw [List.length_map]
        exact w
      · obtain ⟨rfl, k, v, h3, rfl⟩ := y
        have r := repK_keys rk j k v e h3 he (hid own2 H3)
        exact ⟨Same.refl _, fun _ => r, .inl r⟩
  · exact p.elim
theorem postF_lock {K : KK} {W : Wsh} {σ : L2.St} {H : Hp} {Q : VK} {own : List Addr} {d : Addr} {kvs : List (Key × V)} {od : Obj} (hH : H d = some (.dK kvs)) : ∀ {r : Res D}, (∀ x, r ≠ .exc x) → postF K W own σ H Q r →
    postF K W own σ (upd H d (.frz od (.dK kvs))) (fun v H' => H' d = some (.frz od (.dK kvs)) ∧ Q v (upd H' d (.dK kvs))) r
  | .exc x, hx, _ => absurd rfl (hx x)
  | .stuck, _, p => p
  | .ok dd, _, p => by
    intro a o H1 H2 s1 n2 e2 r2
    have hd1 : H1 d = some (.frz od (.dK kvs)) := s1 _ _ upd_same
    have ne : a ≠ d := fun z => by subst z; rw [n2] at hd1; cases hd1
    subst e2
    refine ⟨by rw [upd_ne (Ne.symm ne)]; exact hd1, p a o (upd H1 d (.dK kvs)) _ (fun b ob hb => ?_) (by rw [upd_ne ne]; exact n2) ?_ (r2.alk ((Alk.unlock hd1).hid own))⟩
    · by_cases z : b = d
      · subst z; rw [hH] at hb; cases hb; exact upd_same
      · rw [upd_ne z]
        exact s1 _ _ (by rw [upd_ne z]; exact hb)
    · funext b
      unfold upd
      by_cases z1 : b = d
      · have : ¬ b = a := fun z => ne (z ▸ z1)
        rw [if_pos z1, if_neg this, if_pos z1]
      · rw [if_neg z1, if_neg z1]
theorem lcD_F {K : KK} {lin : List Nat} {W W0 : Wsh} {σ : L2.St} {H : Hp} {Q : VK} {i : Nat} {c e : PLq.Env → Res D} {tg : Tg} {vs : List Nat} {tt : TT}
    (hl : i ∉ lin) (hf : tgFree lin tg) (hin : tgIn vs tg = true) (htt : ∀ σ H Q, tT K lin W0 c σ H Q → tt σ H Q)
    (h : tF K lin W (fun ρ => (keysD ρ i).bind fun ds => if ds.length ≤ szL then (noX (lcR tg c e (wipeD ρ vs) ds)).bind fun ys => .ok (.lst ys) else .stuck) σ H Q) :
    tLockE (tLc (iKeys (tVar i)) (rdTg K tg) tt (tE K lin W0 e) vs) σ H Q ∨ tLc (iKeys (tVar i)) (rdTg K tg) tt (tE K lin W0 e) vs σ H Q := by
  obtain ⟨own, ρ, G, p⟩ := h
  have hk : ∃ ds, ρ[i]? = some (some (.dk ds)) := by
    cases q : ρ[i]? with
    | none => simp only [keysD, q, Res.bind] at p; exact p.elim
    | some z =>
      cases z with
      | none => simp only [keysD, q, Res.bind] at p; exact p.elim
      | some d =>
        cases d with
        | dk ds => exact ⟨ds, rfl⟩
        | _ => simp only [keysD, q, Res.bind] at p; exact p.elim
  obtain ⟨ds, hds⟩ := hk
  have hkd : keysD ρ i = .ok (ds.map (·.1)) := by simp only [keysD, hds]
  have np : (∀ x, ((keysD ρ i).bind fun ds => if ds.length ≤ szL then (lcR tg c e (wipeD ρ vs) ds).bind fun ys => .ok (.lst ys) else .stuck) ≠ (.exc x : Res D)) ∧
      postF K (fun _ _ _ => False) own σ H Q ((keysD ρ i).bind fun ds => if ds.length ≤ szL then (lcR tg c e (wipeD ρ vs) ds).bind fun ys => .ok (.lst ys) else .stuck) := by
    have p : postF K W own σ H Q ((keysD ρ i).bind fun ds => if ds.length ≤ szL then (noX (lcR tg c e (wipeD ρ vs) ds)).bind fun ys => .ok (.lst ys) else .stuck) := p
    rw [hkd] at p ⊢
    simp only [Res.bind] at p ⊢
    by_cases hz : (ds.map (·.1)).length ≤ szL
    · rw [if_pos hz] at p ⊢
      cases q : lcR tg c e (wipeD ρ vs) (ds.map (·.1)) with
      | ok ys => rw [q] at p; exact ⟨fun x z => (by cases z), p⟩
      | exc x => rw [q] at p; exact p.elim
      | stuck => rw [q] at p; exact p.elim
    · rw [if_neg hz] at p; exact p.elim
  obtain ⟨hne, p⟩ := np
  obtain ⟨v, hs, hr⟩ := G.val i _ hds hl
  cases hr with
  | dk hr rk =>
    rename_i d kvs
    rcases hr with hr | ⟨od, hr⟩
    · obtain ⟨n1, hH⟩ := hid_get hr
      refine .inl ⟨d, .dK kvs, hH, trivial, fun od => ?_⟩
      have G2 := G.lock od hH n1
      have h2 := (⟨own, ρ, G2, postF_lock (od := od) hH hne p⟩ : tF K lin (fun _ _ _ => False) (fun ρ => (keysD ρ i).bind fun ds => if ds.length ≤ szL then (lcR tg c e (wipeD ρ vs) ds).bind fun ys => .ok (.lst ys) else .stuck) σ (upd H d (.frz od (.dK kvs))) _)
      exact keys_I hl hs upd_same (lc_F (pr := false) hf hin (fun z => by cases z) htt (fun _ _ _ z => z.elim) h2)
    · exact .inr (keys_I hl hs (hid_get hr).2 (lc_F (W := fun _ _ _ => False) (pr := false) hf hin (fun z => by cases z) htt (fun _ _ _ z => z.elim) ⟨own, ρ, G, p⟩))
theorem PE.or' {X : Cx} {e : Expr} {t t' : TE} (h : PE X e t) (h' : PE X e t') : PE X e fun σ H Q => t σ H Q ∨ t' σ H Q := ⟨fun pins s σ H Q I q => q.elim (h.run pins s σ H Q I) (h'.run pins s σ H Q I)⟩
end PLq
namespace PLE
open PySem
open Sem (wp)
open AutoSeq1 (wpAny_loadPart')
theorem new_tup (l : Addr) (items : Array Value) (n : Nat) (dct : Option Addr) (sl : Array (Option Value)) :
    Meets (Builtin.«enumerate.__new__» ⟨[.type "enumerate", .ref l], []⟩) (fun _ R s => s.heap.get? l = some { cls := .type "tuple", dict := dct, data := .seq items n, slots := sl } ∧
      R (.ok (.ret (.ref (s.heap.push { cls := .type "tuple_iterator", data := .fields #[.ref l, .int 0 0] }).objs.size)))
        { s with heap := (s.heap.push { cls := .type "tuple_iterator", data := .fields #[.ref l, .int 0 0] }).push { cls := .type "enumerate", data := .fields #[.none, .bool false, .ref s.heap.objs.size, rawInt 0, .none, .none] } }) :=
  .of_wp fun prog w A R s h => by
    obtain ⟨hp, g, d, tk, os⟩ := s; obtain ⟨hl, h⟩ := h
    have sb := sub_enumerate
    have tT : Heap.IsTuple (Shared.heap ⟨hp, g, d, tk, os⟩) l items := ⟨_, hl, rfl, n, rfl⟩
    wp_walk using wpAny_loadPart' hl
    refine wpAny_stack_any fun st => wpAny_pure ?_
    split
    · rename_i c _ _ _ _ _
      cases (c == Value.type "enumerate")
      · wp_walk using wpAny_loadPart' hl, wpAny_pyIter_tuple tT
        exact ⟨_, rfl, h⟩
      · wp_walk using wpAny_loadPart' hl, wpAny_pyIter_tuple tT
        exact ⟨_, rfl, h⟩
    · wp_walk using wpAny_loadPart' hl, wpAny_pyIter_tuple tT
      exact ⟨_, rfl, h⟩
section
variable {prog : Program} {w : World} {A : Around} {E : Value → Shared → Prop} {s : Shared}
theorem call_tup {l : Addr} {items : Array Value} {Q : Value → Shared → Prop} (hL : s.heap.IsTuple l items)
    (h : ∀ h', IsEnum h' (s.heap.objs.size + 1) s.heap.objs.size 0 .none → h'.IsTupleIter s.heap.objs.size l 0 → h'.objs.size = s.heap.objs.size + 2 →
      (∀ b o, s.heap.get? b = some o → h'.get? b = some o) → Q (.ref (s.heap.objs.size + 1)) { s with heap := h' }) :
    wpAny (model prog w) A (call (.type "enumerate") [.ref l]) Q E s := by
  obtain ⟨⟨c, dct, dt, sl⟩, hl, hc, n, hd⟩ := hL
  replace hc : c = .type "tuple" := hc
  replace hd : dt = .seq items n := hd
  subst hc hd
  refine callType_new F.called_enumerate (by decide) (F.typeCall_enumerate_1 _) (F.newCall_enumerate_1 _) (fun obj => F.args_object_init_2 obj _) F.entry_enumerate_new
    (new_tup l items n dct sl) ⟨hl, ?_⟩
  have hz : (s.heap.push { cls := .type "tuple_iterator", data := .fields #[.ref l, .int 0 0] }).objs.size = s.heap.objs.size + 1 := Heap.size_push ..
  show _ ∧ _
  rw [hz]
  have he : IsEnum ((s.heap.push { cls := .type "tuple_iterator", data := .fields #[.ref l, .int 0 0] }).push
      { cls := .type "enumerate", data := .fields #[.none, .bool false, .ref s.heap.objs.size, rawInt 0, .none, .none] }) (s.heap.objs.size + 1) s.heap.objs.size 0 .none := by
    have := Heap.get?_push_size (s.heap.push { cls := .type "tuple_iterator", data := .fields #[.ref l, .int 0 0] })
      (o := { cls := .type "enumerate", data := .fields #[.none, .bool false, .ref s.heap.objs.size, rawInt 0, .none, .none] }) rfl
    rw [hz] at this; exact this
  refine ⟨⟨_, he, rfl⟩, h _ he ⟨_, Heap.get?_push_of_some _ (Heap.get?_push_size _ rfl), rfl, rfl⟩ (by rw [Heap.size_push, hz]) fun b o x => Heap.get?_push_of_some _ (Heap.get?_push_of_some _ x)⟩
theorem seq_ne {h : Heap} {a b : Addr} {items : Array Value} (ht : h.IsTuple a items) (hb : ∃ o fs, h.get? b = some o ∧ o.data = .fields fs) : a ≠ b := by
  intro e
  subst e
  obtain ⟨o, h1, _, n, h2⟩ := ht
  obtain ⟨o', fs, h3, h4⟩ := hb
  rw [h1] at h3; cases h3
  rw [h2] at h4; cases h4
theorem iter_fs {h : Heap} {it a : Addr} {i : Nat} (x : h.IsTupleIter it a i) : ∃ o fs, h.get? it = some o ∧ o.data = .fields fs := by
  obtain ⟨o, h1, _, h2⟩ := x
  exact ⟨o, _, h1, h2⟩
end
end PLE
namespace PLq
open PySem PySem.Spec PyProof.Rows L2
def IteT (K : PySem.W.Frag) (a : Addr) : L2.It :=
  ⟨fun i H => ∃ (xs : List V) (x : V), SqT K H a xs ∧ xs[i]? = some x, fun i H v H' => ∃ T x, v = .ref T ∧ H T = none ∧ H' = upd H T (.tup [.int (i : Nat), x]) ∧ ∀ xs, SqT K H a xs → xs[i]? = some x, fun i H => ∃ xs : List V, SqT K H a xs ∧ xs.length ≤ i⟩
theorem turn_enumT {P : Program} {w : World} {K : PySem.W.Frag} {elts : List Expr} {kk : Nat} {tpos : Pos} (a e it : Addr) :
    Turn P w K (.Tuple elts kk tpos) (IteT K a) [e, it] e (fun i h => (∃ old, IsEnum h e it ((i : Nat) : Int) old) ∧ h.IsTupleIter it a i ∧ e ≠ it) where
  mem := by simp
  obj := fun i h st b hb => by
    obtain ⟨⟨old, he⟩, ⟨o, ho, hc, hd⟩, _⟩ := st
    have e' : b = e ∨ b = it := by simpa using hb
    rcases e' with z | z
    · rw [z]; exact ⟨_, he, fun v q => nomatch q⟩
    · rw [z]; exact ⟨o, ho, fun v q => by rw [hd] at q; cases q⟩
  keep := fun i h h' st k => let ⟨⟨old, he⟩, hi, hne⟩ := st; ⟨⟨old, k e (by simp) _ he⟩, hi.at fun o q => k it (by simp) o q, hne⟩
  item := by
    intro X hP hw hK hc i pins s σ H E I hf st hg
    subst hP hw hK
    obtain ⟨⟨old, he⟩, hit, hne⟩ := st
    obtain ⟨xs, x, hq, hx⟩ := hg
    obtain ⟨its, rv, p, hz⟩ := I.tuple hq
    have pT : s.heap.IsTuple a its.toArray := by
      obtain ⟨o, ho, hoc, n, hd⟩ := p
      exact ⟨o, ho, hoc, n, hd⟩
    obtain ⟨u, hu, ru⟩ := rv.get hx
    have hel : e < s.heap.objs.size := Heap.lt_size he
    have hil : it < s.heap.objs.size := by obtain ⟨_, q, _⟩ := hit; exact Heap.lt_size q
    have n1 : a ≠ it := PLE.seq_ne pT (PLE.iter_fs hit)
    have n2 : a ≠ e := PLE.seq_ne pT ⟨_, _, he, rfl⟩
    have hlt : i < its.toArray.size := by
      have := (List.getElem?_eq_some_iff.mp hu).1
      simpa using this
    refine wpAny_pyNext_enum_itemD (Draws.tuple (prog := X.prog) (w := X.w) (A := X.A.in1) (I.ok.hd hc) it a n1 its.toArray) he ⟨hit, pT⟩ hlt hne (by simp only [List.mem_cons, List.not_mem_nil, or_false, not_or]; exact ⟨hne, n2.symm⟩) fun u' h' tk hu' ho hst hT hsz hk => ?_
    have eu : u' = u := by
      have hu2 : its[i]? = some u' := by simpa using hu'
      rw [hu] at hu2
      exact (Option.some.inj hu2).symm
    subst eu
    refine ⟨_, rfl, wpAny_letOwnedTupleGo_enum (s := { s with heap := h', toks := tk + 1 }) ho fun h'' he' sb => ?_⟩
    have hT2 : h''.get? s.heap.objs.size = some { cls := .type "tuple", data := .seq #[.int i tk, u'] } := (sb.2 _ (Nat.ne_of_gt hel)).trans hT
    have new : ObjOk X.prog X.w (upd H s.heap.objs.size (.tup [.int (i : Nat), x])) h'' s.heap.objs.size (.tup [.int (i : Nat), x]) :=
      ⟨by show 2 ≤ sizeLine; decide, [.int i tk, u'], .cons ⟨_, rfl⟩ (.cons ru .nil), ⟨_, hT2, rfl, _, rfl⟩⟩
    have I1 : Inv X pins σ (upd H s.heap.objs.size (.tup [.int (i : Nat), x])) { s with heap := h'', toks := tk + 1 } :=
      I.turnedNew (ch := [e, it]) (fun b ob hb q => (sb.2 b (fun z => hb (by simp [z]))).trans (hk b ob (fun z => hb (by simp [z])) (fun z => hb (by simp [z])) q)) hf (Nat.le_refl _) new
    refine ⟨.ref s.heap.objs.size, _, I1, rfl, ⟨_, x, rfl, I.hok.fresh (Nat.le_refl _), rfl, fun ys hy => by rw [I.tuple_inj hy hq]; exact hx⟩, ⟨⟨u', ?_⟩, hst.1.at fun o q => (sb.2 it (Ne.symm hne)).trans q, hne⟩, fun b hb => ?_⟩
    · have e1 : ((i + 1 : Nat) : Int) = (i : Int) + 1 := by omega
      rw [e1]; exact he'
    · have hb' : b < s.heap.objs.size := by
        have e' : b = e ∨ b = it := by simpa using hb
        rcases e' with z | z
        · rw [z]; exact hel
        · rw [z]; exact hil
      rw [upd_ne (Nat.ne_of_lt hb')]
      exact (hf b hb).1
  done := by
    intro X hP hw hK hc i pins s σ H E I hf st hg
    subst hP hw hK
    obtain ⟨⟨old, he⟩, hit, hne⟩ := st
    obtain ⟨xs, hq, hx⟩ := hg
    obtain ⟨its, rv, p, hz⟩ := I.tuple hq
    have pT : s.heap.IsTuple a its.toArray := by
      obtain ⟨o, ho, hoc, n, hd⟩ := p
      exact ⟨o, ho, hoc, n, hd⟩
    obtain ⟨f0, f1, f2, f3, f4, f5⟩ := hf it (by simp)
    have hl := rv.length
    have hT : s.TypeIs (.ref e) "enumerate" := ⟨_, he, rfl⟩
    unfold pyNext
    refine wpAny_bind (wpAny_attempt (wpAny_callSpecial?_slot (name := Str.ofString "__next__") hT F.slot_enumerate_next
      (wpAny_call_entry F.slot_enumerate_next hT F.entry_enumerate_next ?_ (F.args_enumerate_next_1 _))))
    show wpAny _ _ (field (.ref e) 2 >>= _) _ _ _
    refine wpAny_bind (wpAny_field he rfl (x := .ref it) rfl ?_)
    refine wpAny_bind (wpAny_nextOf_tuple_end (I.ok.hd hc) hit pT (by simp; omega) fun h' x he' hx' => ?_)
    obtain ⟨o, ho, hc'⟩ := hx'
    refine wpAny_bind (wpAny_isInstance (T := "StopIteration") (b := true) ⟨o, ho, hc'⟩ isSubtype_stop ?_)
    exact wpAny_pure ⟨rfl, I.turned (t' := s.toks) (fun b o hb q => he' b o hb q) f0 f1 f3 f4 f5⟩
  self := fun A i s Q E st h => let ⟨⟨_, he⟩, _⟩ := st; wpAny_pyIter_enum he h
def iEnumA (K : PySem.W.Frag) (ta : TA) : TI := fun σ H R => ta σ H fun vs H1 => ∃ a xs, vs = [.ref a] ∧ ((SqL K H1 a xs ∧ R (Ite K a) H1) ∨ (SqT K H1 a xs ∧ R (IteT K a) H1))
theorem pi_enumA {X : Cx} {e : Expr} {ta : TA} {p pos tpos : Pos} {elts : List Expr} {kk : Nat} (hg : Gl X "enumerate") (hm : X.mg "enumerate" = none) (ha : PA X [e] ta) (hs : starEach [e] X.env = [(false, eval e X.env)]) :
    PI X (.Tuple elts kk tpos) (.Call (.Name "enumerate" p) [e] [] pos) (iEnumA X.K ta) := by
  refine ⟨fun pins s σ H R I h => ?_⟩
  refine Call_ (ld_blt I hg hm boot_enumerate (PyProof.Rows.callWith_type1 (thn (ha.run pos pins s σ H _ I h) fun us s1 ⟨vs, H1, I1, r1, q1⟩ => ?_) hs rfl))
  obtain ⟨a, xs, ex, q⟩ := q1
  subst ex
  cases r1 with
  | cons r rr =>
    cases rr
    cases r
    have new : ∀ b, b ∈ [s1.heap.objs.size + 1, s1.heap.objs.size] → FpOk X pins H1 b := fun b hb => by
      have e' : b = s1.heap.objs.size + 1 ∨ b = s1.heap.objs.size := by simpa using hb
      have hle : s1.heap.objs.size ≤ b := by
        rcases e' with z | z
        · rw [z]; exact Nat.le_add_right _ _
        · rw [z]; exact Nat.le_refl _
      exact I1.fpOk hle (I1.hok.fresh hle)
    rcases q with ⟨hq, q⟩ | ⟨hq, q⟩
    · obtain ⟨its, rv, p', hz⟩ := I1.list hq
      refine call_enumerate_list p'.isList fun h' he hit hsz hk => wpAny_pyIter_enum he ?_
      have I2 : Inv X pins σ H1 { s1 with heap := h' } := I1.kept (t' := s1.toks) hk
      exact ⟨s1.heap.objs.size + 1, [s1.heap.objs.size + 1, s1.heap.objs.size], _, _, H1, rfl, I2, turn_enum a (s1.heap.objs.size + 1) s1.heap.objs.size, ⟨⟨.none, he⟩, hit, Nat.succ_ne_self _⟩, new, q⟩
    · obtain ⟨its, rv, ⟨o, ho, hoc, n, hd⟩, hz⟩ := I1.tuple hq
      refine PLE.call_tup (items := its.toArray) ⟨o, ho, hoc, n, hd⟩ fun h' he hit hsz hk => wpAny_pyIter_enum he ?_
      have I2 : Inv X pins σ H1 { s1 with heap := h' } := I1.kept (t' := s1.toks) hk
      exact ⟨s1.heap.objs.size + 1, [s1.heap.objs.size + 1, s1.heap.objs.size], _, _, H1, rfl, I2, turn_enumT a (s1.heap.objs.size + 1) s1.heap.objs.size, ⟨⟨.none, he⟩, hit, Nat.succ_ne_self _⟩, new, q⟩
theorem walk_enumT {K : PySem.W.Frag} {a : Addr} {xs : List V} : Walk (IteT K a) xs.length (fun H => SqT K H a xs) (YPair (fun i => some (.int (i : Nat))) (fun i => xs[i]?)) := by
  refine ⟨fun i _ hi q => ⟨xs, xs[i], q, by simp [hi]⟩, fun _ q => ⟨xs, q, Nat.le_refl _⟩, fun i H v H' _ q y => ?_⟩
  obtain ⟨T, x, h1, h2, h3, h4⟩ := y
  exact ⟨T, _, x, h1, h2, h3, rfl, h4 xs q⟩
section
variable {K : KK} {lin : List Nat} {W : Wsh} {σ : L2.St} {H : Hp} {R : L2.It → Hp → Prop}
theorem enum_IA {f : PLq.Env → Res D} (h : tI K lin W true (fun ρ => (f ρ).bind fun x => ofO (enumD x)) σ H R) : iEnumA K (tAs K lin W fun ρ => (f ρ).bind fun x => (Res.ok []).bind fun xs => .ok (x :: xs)) σ H R := by
  obtain ⟨own, ρ, G, p⟩ := h
  refine ⟨own, ρ, G, ?_⟩
  cases q1 : f ρ with
  | exc e => simp only [q1, Res.bind] at p ⊢; exact p
  | stuck => simp only [q1, Res.bind] at p ⊢; exact p
  | ok d =>
    simp only [q1, Res.bind] at p ⊢
    intro vs H1 s r
    cases r with
    | cons r t =>
      cases t
      cases d with
      | lst ds =>
        obtain ⟨a, vs, rfl, ha, ra⟩ := r.lst_
        refine ⟨a, vs, rfl, .inl ⟨.of (hid_le _ _ _ _ ha), p _ H1 (fun H => SqL K H a vs) (YPair (fun i => some (.int (i : Nat))) (fun i => vs[i]?)) s (by rw [pairs_len, numsL_len, Nat.min_self, ← ra.length]; exact walk_enum)
          (fun own2 H2 s2 => .of (stand s2 ha)) fun i d own2 H2 x H3 hd tr s2 y => ?_⟩⟩
        refine at_pair tr hd y (fun d v h1 h2 => ?_) fun d v h1 h2 => ?_
        · rw [numsL_get] at h1
          split at h1
          · cases h1
            cases h2
            rw [Nat.zero_add]; exact .int _
          · cases h1
        · obtain ⟨v', h3, h4⟩ := (ra.up s2).get h1
          rw [h3] at h2; cases h2; exact h4
      | tup ds =>
        obtain ⟨a, vs, oa, rfl, ha, ra⟩ := r.tup_
        refine ⟨a, vs, rfl, .inr ⟨.inl (.inr ⟨oa, hid_le _ _ _ _ ha⟩), p _ H1 (fun H => SqT K H a vs) (YPair (fun i => some (.int (i : Nat))) (fun i => vs[i]?)) s (by rw [pairs_len, numsL_len, Nat.min_self, ← ra.length]; exact walk_enumT)
          (fun own2 H2 s2 => .inl (.inr ⟨oa, stand s2 ha⟩)) fun i d own2 H2 x H3 hd tr s2 y => ?_⟩⟩
        refine at_pair tr hd y (fun d v h1 h2 => ?_) fun d v h1 h2 => ?_
        · rw [numsL_get] at h1
          split at h1
          · cases h1
            cases h2
            rw [Nat.zero_add]; exact .int _
          · cases h1
        · obtain ⟨v', h3, h4⟩ := (ra.up s2).get h1
          rw [h3] at h2; cases h2; exact h4
      | _ => exact p.elim
end
end PLq
namespace HTr
open PySem PySem.Spec PyProof.Rows HT
section
variable {prog : Program} {w : World} {A : Around} {E : Value → Shared → Prop} {s : Shared}
theorem adjust_rev (n : Nat) : Builtin.Slice.sliceAdjust none none (-1) (n : Int) = ((n : Int) - 1, -1) := by
  unfold Builtin.Slice.sliceAdjust
  simp only [show ((-1 : Int) < 0) from by decide, if_true]
theorem places_rev (n : Nat) : Builtin.Slice.slicePlaces ((n : Int) - 1) (-1) (-1) = n := by
  unfold Builtin.Slice.slicePlaces
  have h1 : ¬ ((-1 : Int) > 0) := by omega
  simp only [h1, if_false]
  by_cases c : (n : Int) - 1 > -1
  · rw [if_pos c]
    have : -(-1 : Int) = 1 := by omega
    rw [this, Int.ediv_one]; omega
  · rw [if_neg c]; omega
theorem sliceApplied_rev {sl : Addr} {vl vu vs : Value} {n : Nat} {Q : Int × Int × Nat → Shared → Prop} (hs : s.heap.IsSliceOf sl vl vu vs) (pl : IsPart vl none) (pu : IsPart vu none) (ps : IsPart vs (some (-1)))
    (h : Q ((n : Int) - 1, -1, n) s) : wpAny (model prog w) A (Builtin.Slice.sliceApplied (.ref sl) (pure (n : Int))) Q E s := by
  obtain ⟨os, hos, hcs, hds⟩ := id hs
  unfold Builtin.Slice.sliceApplied Builtin.Slice.sliceFields
  refine wpAny_bind (wpAny_bind (wpAny_field hos hds (x := vl) rfl (wpAny_bind (wpAny_field hos hds (x := vu) rfl (wpAny_bind (wpAny_field hos hds (x := vs) rfl (wpAny_pure ?_)))))))
  refine wpAny_bind (slicePart_ ps ?_)
  show wpAny _ _ (if ((-1 : Int) == 0) = true then _ else _) _ _ s
  rw [if_neg (by decide)]
  refine wpAny_bind (slicePart_ pl (wpAny_bind (slicePart_ pu (wpAny_bind (wpAny_pure ?_)))))
  show wpAny _ _ (match Builtin.Slice.sliceAdjust none none (-1) (n : Int) with | (lo, hi) => pure (lo, (-1 : Int), Builtin.Slice.slicePlaces lo hi (-1))) _ _ s
  rw [adjust_rev n]
  show wpAny _ _ (pure ((n : Int) - 1, (-1 : Int), Builtin.Slice.slicePlaces ((n : Int) - 1) (-1) (-1))) _ _ s
  rw [places_rev]
  exact wpAny_pure h
theorem fm_map {α β : Type} {f : α → Option β} {g : α → β} : ∀ {l : List α}, (∀ m ∈ l, f m = some (g m)) → l.filterMap f = l.map g
  | [], _ => rfl
  | a :: l, h => by rw [List.filterMap_cons, h a List.mem_cons_self, fm_map fun m hm => h m (List.mem_cons_of_mem _ hm)]; rfl
theorem pick_rev (xs : Array Value) : ((List.range xs.size).filterMap fun (m : Nat) => xs[((xs.size : Int) - 1 + (m : Int) * -1).toNat]?).toArray = xs.toList.reverse.toArray := by
  congr 1
  have : (List.range xs.size).filterMap (fun (m : Nat) => xs[((xs.size : Int) - 1 + (m : Int) * -1).toNat]?) = (List.range xs.size).map fun m => xs.toList.reverse.getD m .none := by
    refine fm_map fun m hm => ?_
    have hm := List.mem_range.mp hm
    have e : ((xs.size : Int) - 1 + (m : Int) * -1).toNat = xs.size - 1 - m := by omega
    rw [e, List.getD_eq_getElem?_getD, List.getElem?_reverse (by simpa using hm), Array.length_toList]
    rw [Array.getElem?_eq_getElem (by omega), List.getElem?_eq_getElem (by rw [Array.length_toList]; omega)]
    simp
  rw [this]
  refine List.ext_getElem (by simp) fun i h1 h2 => ?_
  rw [List.getElem_map, List.getElem_range, List.getD_eq_getElem?_getD, List.getElem?_eq_getElem h2]; rfl
theorem getItem_tuple_rev {t sl : Addr} {items : Array Value} {vl vu vs : Value} {Q : Value → Shared → Prop} (ht : IsTup s.heap t items) (hs : s.heap.IsSliceOf sl vl vu vs) (pl : IsPart vl none) (pu : IsPart vu none) (ps : IsPart vs (some (-1)))
    (h : Q (.ref s.heap.objs.size) { s with heap := s.heap.push { cls := .type "tuple", data := .seq items.toList.reverse.toArray } })
    (hsz : items.size ≤ sizeLine) : wpAny (model prog w) A (getItem (.ref t) (.ref sl)) Q E s := by
  have htake : sizeOk (.seq items.toList.reverse.toArray) := by
    show items.toList.reverse.toArray.size ≤ sizeLine
    rw [List.size_toArray, List.length_reverse, Array.length_toList]
    exact hsz
  obtain ⟨os, hos, hcs, hds⟩ := id hs
  have hTs : s.TypeIs (.ref sl) "slice" := ⟨os, hos, hcs⟩
  unfold getItem
  try with_reducible refine wpAny_holding ?_
  first | refine wpAny_bind (wpAny_pure ?_) | skip
  refine wpAny_bind (wpAny_sequenceKey ht.typeIs (by decide) ?_)
  refine wpAny_bind (wpAny_callSpecial?_slot (name := Str.ofString "__getitem__") ht.typeIs PyProof.Rows.slot_tuple_getitem
    (wpAny_call_entry PyProof.Rows.slot_tuple_getitem ht.typeIs entry_tuple_getitem ?_ (args_tuple_getitem _ _)))
  show wpAny _ _ (Builtin.Tuple.tupleItemsOf (.ref t) >>= _) _ _ s
  refine wpAny_bind (tupleItemsOf_ ht ?_)
  refine wpAny_bind (wpAny_typeOf hTs ?_)
  rw [if_pos (by decide)]
  refine wpAny_bind (sliceApplied_rev hs pl pu ps ?_)
  have hno : ¬ ((((items.size : Int) - 1) == 0 && (-1 : Int) == 1 && items.size == items.size) = true) := by
    intro q
    rw [Bool.and_eq_true, Bool.and_eq_true] at q
    exact absurd q.1.2 (by decide)
  show wpAny _ _ (if (((items.size : Int) - 1) == 0 && (-1 : Int) == 1 && items.size == items.size) = true then _ else _) _ _ s
  rw [if_neg hno, pick_rev]
  first
    | exact wpAny_bind (m := Builtin.Tuple.tupleExact _) (wpAny_newObj_type (wpAny_pure ⟨_, rfl, wpAny_pure h⟩) htake)
    | exact wpAny_bind (m := Builtin.Tuple.tupleExact _) (wpAny_newObj_type (wpAny_bind (wpAny_pure (wpAny_pure ⟨_, rfl, wpAny_pure h⟩))) htake)
    | exact wpAny_bind (wpAny_bind (m := Builtin.Tuple.tupleExact _) (wpAny_newObj_type (wpAny_pure (wpAny_pure ⟨_, rfl, wpAny_pure h⟩)) htake))
    | exact wpAny_bind (wpAny_bind (m := Builtin.Tuple.tupleExact _) (wpAny_newObj_type (wpAny_pure ⟨_, rfl, wpAny_pure h⟩) htake))
end
end HTr
namespace PLq
open PySem L2
def Evs (X : Cx) (lin : List Nat) (W : Wsh) (Γ : Tbl) (C : Cns) : Cds → List Expr → Prop
  | .nil, [] => True
  | .cons a r, e :: es => PE X e (tB X.KK lin W (ev Γ C a)) ∧ plainE e = true ∧ Evs X lin W Γ C r es
  | _, _ => False
theorem xop_val {ck : Ck} : ∀ (op : XOp) {e : Expr} {es : List Expr}, xSyn ck op e = some es → byVal e = true
  | .rev, e, es, h => by cases e <;> first | rfl | cases h
  | .sorted, e, es, h => by cases e <;> first | rfl | cases h
  | .dict, e, es, h => by cases e <;> first | rfl | cases h
  | .tupS, e, es, h => by cases e <;> first | rfl | cases h
  | .lstS, e, es, h => by cases e <;> first | rfl | cases h
  | .intS, e, es, h => by cases e <;> first | rfl | cases h
  | .maxT, e, es, h => by cases e <;> first | rfl | cases h
  | .minL, e, es, h => by cases e <;> first | rfl | cases h
  | .srtS, e, es, h => by cases e <;> first | rfl | cases h
def tRev (K : KK) (te : TE) : TE := fun σ H Q => te σ H fun x H1 => (∃ a xs, x = .ref a ∧ SqL K H1 a xs ∧ ∀ p, H1 p = none → Q (.ref p) (upd H1 p (.lst xs.reverse))) ∨
  ((∃ x', x = .str (mkS x') ∧ x'.length ≤ sizeLine ∧ Q (.str (mkS x'.reverse)) H1) ∨
  ∃ a xs, x = .ref a ∧ SqT K H1 a xs ∧ ∀ p o, H1 p = none → o.dict = none → Q (.ref p) (upd H1 p (.frz o (.tup xs.reverse))))
theorem rev_pick (z : Str) : (Builtin.Str.strSliceIndices none none (-1) z.length).filterMap (z.cps[·]?) = z.cps.toList.reverse := by
  have e : Builtin.Str.strSliceIndices none none (-1) z.length = sliceRange ((z.length : Int) - 1) (-1) (-1) := rfl
  rw [e, PySem.W.krv_sliceRange, PySem.W.krv_range, List.filterMap_reverse]
  congr 1
  exact PySem.W.krv_all z.cps
theorem pe_rev {X : Cx} {e : Expr} {te : TE} {k : Nat} {p1 p2 p3 pos : Pos} (he : PE X e te) : PE X (.Subscript e (.Slice none none (some (.UnaryOp .USub (.Constant (.int 1) k p1) p2)) p3) pos) (tRev X.KK te) := by
  refine ⟨fun pins s σ H Q I h => ?_⟩
  refine PyProof.Rows.Subscript_ (thn (he.run pins s σ H _ I h) fun v s1 ⟨x, H1, I1, r1, q1⟩ => ?_)
  have hst : PO X (some (.UnaryOp .USub (.Constant (.int 1) k p1) p2)) (tPart (tUn (rU fun i => .int (-i)) (tC (.int 1)))) := po_some (pe_un un_neg pe_int)
  refine wpAny_Slice (thn (po_none.run pins s1 σ H1 (fun o H2 => o = none ∧ H2 = H1) I1 ⟨rfl, rfl⟩) fun vl s2 ⟨l, H2, I2, pl, el, e2⟩ => ?_)
  subst el e2
  refine thn (po_none.run pins s2 σ H2 (fun o H3 => o = none ∧ H3 = H2) I2 ⟨rfl, rfl⟩) fun vu s3 ⟨u, H3, I3, pu, eu, e3⟩ => ?_
  subst eu e3
  refine thn (hst.run pins s3 σ H3 (fun o H4 => o = some (-1) ∧ H4 = H3) I3 ⟨1, rfl, -1, rfl, rfl, rfl⟩) fun vs s4 ⟨o, H4, I4, ps, eo, e4⟩ => ?_
  subst eo e4
  have I5 : Inv X pins σ H4 { s4 with heap := s4.heap.push { cls := .type "slice", data := .fields #[vl, vu, vs] } } := I4.kept (t' := s4.toks) fun b ob q => Heap.get?_push_of_some _ q
  rcases q1 with ⟨a, xs, ex, hx, q⟩ | ⟨z, ex, hz, q⟩ | ⟨a, xs, ex, hx, q⟩
  · subst ex
    cases r1
    obtain ⟨its, r, ht, hz⟩ := I5.list hx
    have hlen := r.length
    show wpAny (model X.prog X.w) X.A (PyProof.Rows.subscriptTail e (.Slice none none (some (.UnaryOp .USub (.Constant (.int 1) k p1) p2)) p3) (.ref a) (.ref s4.heap.objs.size)) (EP X pins σ Q) X.xe { s4 with heap := s4.heap.push { cls := .type "slice", data := .fields #[vl, vu, vs] } }
    refine PyProof.Rows.tail_any (ops := [.ref a, .ref s4.heap.objs.size]) ht.isList.typeIs (PySem.slot_list_getitem.lookup) ?_ (by with_unfolding_all rfl)
    refine wpAny_getItem_list_slice ht.isList (Heap.IsSliceOf.new _ vl vu vs) pl pu ps (by decide) ?_ (by rw [List.size_toArray]; omega)
    rw [PySem.W.krv_pick]
    refine ⟨.ref _, _, I5.laid (t' := s4.toks) (o := .lst xs.reverse) (fun b ob q => Heap.get?_push_of_some _ q) (Nat.le_refl _) ?_, rfl, q _ (I5.hok.fresh (Nat.le_refl _))⟩
    exact ⟨by rw [List.length_reverse]; exact hz, _, 0, r.reverse, Heap.get?_push_size _ rfl⟩
  · subst ex
    obtain ⟨t, rfl⟩ := r1
    show wpAny (model X.prog X.w) X.A (PyProof.Rows.subscriptTail e (.Slice none none (some (.UnaryOp .USub (.Constant (.int 1) k p1) p2)) p3) (.str (mkS z) t) (.ref s4.heap.objs.size)) (EP X pins σ Q) X.xe { s4 with heap := s4.heap.push { cls := .type "slice", data := .fields #[vl, vu, vs] } }
    obtain ⟨l, rfl, el⟩ := IsPart.raw pl
    obtain ⟨u, rfl, eu⟩ := IsPart.raw pu
    obtain ⟨st, rfl, es⟩ := IsPart.raw ps
    cases l with
    | some _ => cases el
    | none =>
      cases u with
      | some _ => cases eu
      | none =>
        cases st with
        | none => cases es
        | some st =>
          obtain ⟨i, ti⟩ := st
          simp only [Option.map_some, Option.some.injEq] at es
          subst es
          refine PyProof.Rows.tail_any (ops := [.str (mkS z) t, .ref s4.heap.objs.size]) (typeIs_str _ _ _) PySem.F.slot_str_getitem.lookup ?_ (by with_unfolding_all rfl)
          refine wpAny_getItem_str_slice (l := none) (u := none) (st := some (-1, ti)) ⟨_, Heap.get?_push_size _ rfl, rfl, rfl⟩ rfl ?_
          have e : sliceMade (mkS z) t none none (some (-1, ti)) = Made.str (mkS z.reverse) := by
            show (if ((-1 : Int) == 1 && _) = true then _ else Made.str ⟨((Builtin.Str.strSliceIndices none none (-1) (mkS z).length).filterMap ((mkS z).cps[·]?)).toArray⟩) = _
            rw [if_neg (by simp), rev_pick]
            simp [mkS]
          rw [e]
          exact ⟨by rw [mkS_len, List.length_reverse]; exact hz, .str _, H4, I5.tok _, ⟨_, rfl⟩, q⟩
  · subst ex
    cases r1
    obtain ⟨its, r, ht, hz⟩ := I5.tuple hx
    have hlen := r.length
    show wpAny (model X.prog X.w) X.A (PyProof.Rows.subscriptTail e (.Slice none none (some (.UnaryOp .USub (.Constant (.int 1) k p1) p2)) p3) (.ref a) (.ref s4.heap.objs.size)) (EP X pins σ Q) X.xe { s4 with heap := s4.heap.push { cls := .type "slice", data := .fields #[vl, vu, vs] } }
    refine PyProof.Rows.tail_any (ops := [.ref a, .ref s4.heap.objs.size]) ht.typeIs PyProof.Rows.slot_tuple_getitem.lookup ?_ (by with_unfolding_all rfl)
    refine HTr.getItem_tuple_rev ht (Heap.IsSliceOf.new _ vl vu vs) pl pu ps ?_ (by rw [List.size_toArray]; omega)
    refine ⟨.ref _, _, I5.laid (t' := s4.toks) (o := .frz { cls := .type "tuple", data := .seq its.toArray.toList.reverse.toArray } (.tup xs.reverse)) (fun b ob q => Heap.get?_push_of_some _ q) (Nat.le_refl _) ?_, rfl, q _ _ (I5.hok.fresh (Nat.le_refl _)) rfl⟩
    exact ⟨Heap.get?_push_size _ rfl, by rw [List.length_reverse]; exact hz, _, r.reverse, PyProof.Rows.IsTup.new _ _⟩
section
variable {X : Cx} {ck : Ck} {ec : Ex → Addr} {W : WX} {Γ : Tbl} {C : Cns}
theorem rev_E {K : KK} {lin : List Nat} {W : Wsh} {σ : L2.St} {H : Hp} {Q : VK} {f : PLq.Env → Res D} (h : tE K lin W (fun ρ => (f ρ).bind fun x => ofO (xopD .rev [x])) σ H Q) : tRev K (tB K lin W f) σ H Q := by
  obtain ⟨own, ρ, G, p⟩ := h
  refine stepB G (fun d x H1 q1 s1 r1 => ?_) (fun e H1 q s => ?_) fun q => ?_
  · simp only [q1, Res.bind] at p
    cases d with
    | str z =>
      simp only [xopD, revD] at p
      split at p
      case isFalse => exact p.elim
      case isTrue hz =>
        cases r1.str_
        exact .inr (.inl ⟨z, rfl, by rw [← szL_eq]; exact hz, p _ _ s1 (.str _)⟩)
    | lst ds =>
      obtain ⟨a, vs, rfl, ha, ra⟩ := r1.lst_
      refine .inl ⟨a, vs, rfl, .of ha, fun q hq => ?_⟩
      obtain ⟨s2, r2⟩ := Rep.new_lst (G.mono s1).trk hq ra.reverse
      exact p _ _ (s1.trans s2) r2
    | tup ds =>
      obtain ⟨a, vs, o, rfl, ha', ha, na, ra⟩ := r1.tup_
      refine .inr (.inr ⟨a, vs, rfl, .inl (.inr ⟨_, ha⟩), fun q o' hq ho => ?_⟩)
      obtain ⟨s2, r2⟩ := Rep.new_tup (G.mono s1).trk hq ho ra.reverse
      exact p _ _ (s1.trans s2) r2
    | _ => exact p.elim
  · simp only [q, Res.bind] at p; exact p H1 s
  · simp only [q, Res.bind] at p; exact p
theorem ev1 {f : PLq.Env → Res D} {op : XOp} : (fun ρ => ((f ρ).bind fun x => (Res.ok []).bind fun xs => .ok (x :: xs)).bind fun ds => ofO (xopD op ds)) = fun ρ => (f ρ).bind fun x => ofO (xopD op [x]) := by
  funext ρ
  cases f ρ <;> rfl
theorem Evs.one {lin : List Nat} {W : Wsh} : ∀ {xs : Cds} {e : Expr}, Evs X lin W Γ C xs [e] → ∃ a, xs = .cons a .nil ∧ PE X e (tB X.KK lin W (ev Γ C a)) ∧ plainE e = true
  | .cons a .nil, e, h => ⟨a, rfl, h.1, h.2.1⟩
  | .cons a (.cons b r), e, h => h.2.2.elim
  | .nil, e, h => h.elim
theorem callC_E {X : Cx} {lin : List Nat} {W : Wsh} {σ : L2.St} {H : Hp} {Q : VK} {f : PLq.Env → Res (List D)} {r : List V → Hp → VK → Prop} {h : List D → Option D} (sv : ServesC X.KK r h) (q : tE X.KK lin W (fun ρ => (f ρ).bind fun ds => ofO (h ds)) σ H Q) : tCB r (tAB X.KK lin W f) σ H Q := by
  obtain ⟨own, ρ, G, p⟩ := q
  refine stepAB G (fun ds vs H1 q s r => ?_) (fun e H1 q s => ?_) fun q => ?_
  · simp only [q, Res.bind] at p
    cases z : h ds with
    | none => rw [z] at p; exact p.elim
    | some w => rw [z] at p; exact sv own H1 vs ds w Q (G.mono s).trk r z fun v H3 s3 r3 => p v H3 (s.trans s3) r3
  · simp only [q, Res.bind] at p
    exact p H1 s
  · simp only [q, Res.bind] at p
    exact p
theorem Evs.pa {lin : List Nat} {W : Wsh} : ∀ {xs : Cds} {es : List Expr}, Evs X lin W Γ C xs es → PA X es (tAB X.KK lin W (evs Γ C xs))
  | .nil, [], _ => pa_nil.imp fun σ H Q q => nil_AB (by simp only [evs] at q; exact q)
  | .cons a r, e :: es, h => (pa_cons h.1 (Evs.pa h.2.2) (star_plain h.2.1 es X.env)).imp fun σ H Q q => cons_AB (by simp only [evs] at q; exact q)
  | .nil, _ :: _, h => h.elim
  | .cons _ _, [], h => h.elim
theorem Evs.two {lin : List Nat} {W : Wsh} : ∀ {xs : Cds} {e e2 : Expr}, Evs X lin W Γ C xs [e, e2] → ∃ a b, xs = .cons a (.cons b .nil) ∧ PE X e (tB X.KK lin W (ev Γ C a)) ∧ plainE e = true ∧ PE X e2 (tB X.KK lin W (ev Γ C b)) ∧ plainE e2 = true
  | .cons a (.cons b .nil), e, e2, h => ⟨a, b, rfl, h.1, h.2.1, h.2.2.1, h.2.2.2.1⟩
  | .cons a (.cons b (.cons c r)), e, e2, h => h.2.2.2.2.elim
  | .cons a .nil, e, e2, h => h.2.2.elim
  | .nil, e, e2, h => h.elim
theorem syn_rev {e : Expr} {es : List Expr} (q : xSyn ck .rev e = some es) : ∃ a k p1 p2 p3 pos, e = .Subscript a (.Slice none none (some (.UnaryOp .USub (.Constant (.int 1) k p1) p2)) p3) pos ∧ es = [a] := by
  unfold xSyn at q
  split at q
  all_goals first | contradiction | skip
  cases q
  exact ⟨_, _, _, _, _, _, rfl, rfl⟩
theorem syn_sorted {e : Expr} {es : List Expr} (q : xSyn ck .sorted e = some es) : ∃ a p pos, e = .Call (.Name "sorted" p) [a] [] pos ∧ es = [a] ∧ ck.glob "sorted" = true := by
  unfold xSyn at q
  split at q
  all_goals first | contradiction | skip
  split at q
  · rename_i hc
    simp only [Bool.and_eq_true, decide_eq_true_eq] at hc
    obtain ⟨h1, h2⟩ := hc
    subst h1
    cases q
    exact ⟨_, _, _, rfl, rfl, h2⟩
  · cases q
theorem syn_srtS {e : Expr} {es : List Expr} (q : xSyn ck .srtS e = some es) : ∃ a p p2 pos2 pos, e = .Call (.Name "sorted" p) [.Call (.Name "set" p2) [a] [] pos2] [] pos ∧ es = [a] ∧ ck.glob "sorted" = true ∧ ck.glob "set" = true := by
  unfold xSyn at q
  split at q
  all_goals first | contradiction | skip
  split at q
  · rename_i hc
    simp only [Bool.and_eq_true, decide_eq_true_eq] at hc
    obtain ⟨⟨⟨h1, h2⟩, h3⟩, h4⟩ := hc
    subst h1 h3
    cases q
    exact ⟨_, _, _, _, _, rfl, rfl, h2, h4⟩
  · cases q
theorem syn_dict {e : Expr} {es : List Expr} (q : xSyn ck .dict e = some es) : ∃ a p pos, e = .Call (.Name "dict" p) [a] [] pos ∧ es = [a] ∧ ck.glob "dict" = true := by
  unfold xSyn at q
  split at q
  all_goals first | contradiction | skip
  split at q
  · rename_i hc
    simp only [Bool.and_eq_true, decide_eq_true_eq] at hc
    obtain ⟨h1, h2⟩ := hc
    subst h1
    cases q
    exact ⟨_, _, _, rfl, rfl, h2⟩
  · cases q
theorem syn_tupS {e : Expr} {es : List Expr} (q : xSyn ck .tupS e = some es) : ∃ a p pos, e = .Call (.Name "tuple" p) [a] [] pos ∧ es = [a] ∧ ck.glob "tuple" = true := by
  unfold xSyn at q
  split at q
  all_goals first | contradiction | skip
  split at q
  · rename_i hc
    simp only [Bool.and_eq_true, decide_eq_true_eq] at hc
    obtain ⟨h1, h2⟩ := hc
    subst h1
    cases q
    exact ⟨_, _, _, rfl, rfl, h2⟩
  · cases q
theorem syn_lstS {e : Expr} {es : List Expr} (q : xSyn ck .lstS e = some es) : ∃ a p pos, e = .Call (.Name "list" p) [a] [] pos ∧ es = [a] ∧ ck.glob "list" = true := by
  unfold xSyn at q
  split at q
  all_goals first | contradiction | skip
  split at q
  · rename_i hc
    simp only [Bool.and_eq_true, decide_eq_true_eq] at hc
    obtain ⟨h1, h2⟩ := hc
    subst h1
    cases q
    exact ⟨_, _, _, rfl, rfl, h2⟩
  · cases q
theorem syn_intS {e : Expr} {es : List Expr} (q : xSyn ck .intS e = some es) : ∃ a p pos, e = .Call (.Name "int" p) [a] [] pos ∧ es = [a] ∧ ck.glob "int" = true := by
  unfold xSyn at q
  split at q
  all_goals first | contradiction | skip
  split at q
  · rename_i hc
    simp only [Bool.and_eq_true, decide_eq_true_eq] at hc
    obtain ⟨h1, h2⟩ := hc
    subst h1
    cases q
    exact ⟨_, _, _, rfl, rfl, h2⟩
  · cases q
theorem syn_maxT {e : Expr} {es : List Expr} (q : xSyn ck .maxT e = some es) : ∃ a p pos, e = .Call (.Name "max" p) [a] [] pos ∧ es = [a] ∧ ck.glob "max" = true := by
  unfold xSyn at q
  split at q
  all_goals first | contradiction | skip
  split at q
  · rename_i hc
    simp only [Bool.and_eq_true, decide_eq_true_eq] at hc
    obtain ⟨h1, h2⟩ := hc
    subst h1
    cases q
    exact ⟨_, _, _, rfl, rfl, h2⟩
  · cases q
theorem syn_minL {e : Expr} {es : List Expr} (q : xSyn ck .minL e = some es) : ∃ a p pos, e = .Call (.Name "min" p) [a] [] pos ∧ es = [a] ∧ ck.glob "min" = true := by
  unfold xSyn at q
  split at q
  all_goals first | contradiction | skip
  split at q
  · rename_i hc
    simp only [Bool.and_eq_true, decide_eq_true_eq] at hc
    obtain ⟨h1, h2⟩ := hc
    subst h1
    cases q
    exact ⟨_, _, _, rfl, rfl, h2⟩
  · cases q
theorem call1_pe (h : XOk X ck ec W Γ C) {x : Str} {v : Value} {id : String} {r : List V → Hp → VK → Prop} {a : Expr} {p pos : Pos} {t : TA} (hv : v = .builtin id ∨ v = .type id) (hc : CallR X v r) (g : ck.glob x = true) (hf : x ∈ fnames) (hb : bootBuiltins x = some v) (pl : plainE a = true) (ha : PA X [a] t) :
    PE X (.Call (.Name x p) [a] [] pos) (tCB r t) := by
  obtain ⟨g1, g2, g3⟩ := h.gl g
  have hm : X.mg x = none := h.free _ hf
  have hs := star_plain pl [] X.env
  have ha2 : (backTo pos (starEach ([] : List Expr) X.env)).any (·.1) = false := rfl
  rcases hv with rfl | rfl
  · exact pe_callB hc g1 hm hb ha g3 g2 hs ha2
  · exact pe_callTy hc g1 hm hb ha g3 g2 hs ha2
theorem strs_of {K : KK} {H : Hp} : ∀ {vs : List V} {ds : List D} {xs : List T}, Reps K H vs ds → strsD ds = some xs → vs = (xs.map mkS).map V.str
  | _, [], xs, .nil, h => by cases h; rfl
  | _, d :: ds, xs, .cons r t, h => by
    cases d with
    | str z =>
      simp only [strsD] at h
      cases e : strsD ds with
      | none => rw [e] at h; cases h
      | some zs =>
        rw [e] at h
        cases h
        rw [strs_of t e]
        cases r
        rfl
    | _ => cases h
theorem reps_strs {K : KK} {H : Hp} : ∀ ys : List Str, Reps K H (ys.map V.str) (ys.map fun y => D.str y.cps.toList)
  | [] => .nil
  | y :: ys => .cons (by
      have e : y = mkS y.cps.toList := by obtain ⟨a⟩ := y; simp [mkS]
      conv => arg 3; rw [e]
      exact .str _) (reps_strs ys)
theorem srtS_E {X : Cx} {lin : List Nat} {W : Wsh} {σ : L2.St} {H : Hp} {Q : VK} {f : PLq.Env → Res (List D)} (q : tE X.KK lin W (fun ρ => (f ρ).bind fun ds => ofO (srtSD ds)) σ H Q) : tCB (rSrtA X.w) (tCons (tCB (rSetA X.KK X.w) (tAB X.KK lin W f)) tNil) σ H Q := by
  obtain ⟨own, ρ, G, p⟩ := q
  refine stepAB G (fun ds vs H1 q s r => ?_) (fun e H1 q s => ?_) fun q => ?_
  · simp only [q, Res.bind] at p
    cases z : srtSD ds with
    | none => rw [z] at p; exact p.elim
    | some w =>
      rw [z] at p
      unfold srtSD at z
      split at z
      · rename_i ds'
        split at z
        · rename_i xs hx
          split at z
          · rename_i hl
            cases z
            obtain ⟨v, rfl, r1⟩ := r.one
            obtain ⟨a, ws, rfl, ha, ra⟩ := r1.lst_
            have ew := strs_of ra hx
            subst ew
            have sp := SStr.seen_spec (xs.map mkS)
            have l1 := sp.2.2
            rw [List.length_map] at l1
            have sl : (4000 : Nat) ≤ sizeLine := by decide
            have sb : (4096 : Nat) ≤ scanBound := by decide
            refine .inl ⟨a, xs.map mkS, rfl, .of ha, by rw [List.length_map]; omega, fun b hb => ?_⟩
            refine .inl ⟨b, SStr.seen (xs.map mkS), rfl, upd_same, by omega, fun c hc => ?_⟩
            have s2 : Same H1 (upd H1 b (SetSO X.w b (SStr.seen (xs.map mkS)))) := same_upd hb
            obtain ⟨s3, r3⟩ := Rep.new_lst ((G.mono s).mono s2).trk hc (reps_strs (sS (SStr.seen (xs.map mkS))))
            exact p _ _ ((s.trans s2).trans s3) r3
          · cases z
        · split at z
          · rename_i ns hx
            split at z
            · rename_i hl
              cases z
              obtain ⟨v, rfl, r1⟩ := r.one
              obtain ⟨a, ws, rfl, ha, ra⟩ := r1.lst_
              have ed := intsD_eq hx
              rw [ed] at ra
              have ew := ra.ints
              subst ew
              have sb : (4096 : Nat) ≤ scanBound := by decide
              refine .inr (.inr ⟨a, ns, rfl, .of ha, by omega, fun b hb => ?_⟩)
              refine .inr ⟨b, ns, rfl, upd_same, by omega, fun c hc => ?_⟩
              have s2 : Same H1 (upd H1 b (SetIO X.w b ns)) := same_upd hb
              obtain ⟨s3, r3⟩ := Rep.new_lst (K := X.KK) ((G.mono s).mono s2).trk hc (Reps.of_ints (sortI ns))
              exact p _ _ ((s.trans s2).trans s3) r3
            · cases z
          · cases z
      · rename_i ds'
        split at z
        · rename_i xs hx
          split at z
          · rename_i hl
            cases z
            obtain ⟨v, rfl, r1⟩ := r.one
            obtain ⟨a, ws, o, rfl, _, ha, _, ra⟩ := r1.tup_
            have ew := strs_of ra hx
            subst ew
            have sp := SStr.seen_spec (xs.map mkS)
            have l1 := sp.2.2
            rw [List.length_map] at l1
            have sl : (4000 : Nat) ≤ sizeLine := by decide
            have sb : (4096 : Nat) ≤ scanBound := by decide
            refine .inr (.inl ⟨a, xs.map mkS, rfl, .inl (.inr ⟨o, ha⟩), by rw [List.length_map]; omega, fun b hb => ?_⟩)
            refine .inl ⟨b, SStr.seen (xs.map mkS), rfl, upd_same, by omega, fun c hc => ?_⟩
            have s2 : Same H1 (upd H1 b (SetSO X.w b (SStr.seen (xs.map mkS)))) := same_upd hb
            obtain ⟨s3, r3⟩ := Rep.new_lst ((G.mono s).mono s2).trk hc (reps_strs (sS (SStr.seen (xs.map mkS))))
            exact p _ _ ((s.trans s2).trans s3) r3
          · cases z
        · cases z
      · cases z
  · simp only [q, Res.bind] at p
    exact p H1 s
  · simp only [q, Res.bind] at p
    exact p
theorem xop_E (h : XOk X ck ec W Γ C) : ∀ (op : XOp) {e : Expr} {es : List Expr} {xs : Cds}, xSyn ck op e = some es → Evs X ck.lin (wsh ec W) Γ C xs es → PE X e (tE X.KK ck.lin (wsh ec W) (ev Γ C (.xop op xs)))
  | .rev, e, es, xs, q, a => by
    obtain ⟨b, k, p1, p2, p3, pos, rfl, rfl⟩ := syn_rev q
    obtain ⟨c, rfl, pe, _⟩ := a.one
    refine (pe_rev pe).imp fun σ H Q z => rev_E ?_
    simp only [ev, evs] at z
    rw [ev1] at z
    exact z
  | .sorted, e, es, xs, q, a => by
    obtain ⟨b, p, pos, rfl, rfl, g⟩ := syn_sorted q
    obtain ⟨c, ec, pe, pl⟩ := a.one
    refine (call1_pe h (v := .builtin "sorted") (.inl rfl) (cr_srt h.units h.calm) g (by decide) (by decide +kernel) pl a.pa).imp fun σ H Q z => callC_E s_srt ?_
    simp only [ev] at z
    exact z
  | .srtS, e, es, xs, q, a => by
    obtain ⟨b, p, p2, pos2, pos, rfl, rfl, g1, g2⟩ := syn_srtS q
    obtain ⟨c, ec, pe, pl⟩ := a.one
    have inner := call1_pe h (v := .type "set") (.inr rfl) (cr_setA h.calm) g2 (by decide) (by decide +kernel) pl a.pa (p := p2) (pos := pos2)
    refine (call1_pe h (v := .builtin "sorted") (.inl rfl) (cr_srtA h.units h.calm) g1 (by decide) (by decide +kernel) rfl (pa_cons inner pa_nil (star_plain rfl _ _))).imp fun σ H Q z => srtS_E ?_
    simp only [ev] at z
    exact z
  | .dict, e, es, xs, q, a => by
    obtain ⟨b, p, pos, rfl, rfl, g⟩ := syn_dict q
    obtain ⟨c, ec, pe, pl⟩ := a.one
    refine (call1_pe h (v := .type "dict") (.inr rfl) (cr_dictP h.calm) g (by decide) (by decide +kernel) pl a.pa).imp fun σ H Q z => callC_E s_dict ?_
    simp only [ev] at z
    exact z
  | .tupS, e, es, xs, q, a => by
    obtain ⟨b, p, pos, rfl, rfl, g⟩ := syn_tupS q
    obtain ⟨c, ec, pe, pl⟩ := a.one
    refine (call1_pe h (v := .type "tuple") (.inr rfl) (cr_tupS h.calm) g (by decide) (by decide +kernel) pl a.pa).imp fun σ H Q z => callC_E s_tupS ?_
    simp only [ev] at z
    exact z
  | .lstS, e, es, xs, q, a => by
    obtain ⟨b, p, pos, rfl, rfl, g⟩ := syn_lstS q
    obtain ⟨c, ec, pe, pl⟩ := a.one
    refine (call1_pe h (v := .type "list") (.inr rfl) (cr_lstS h.calm) g (by decide) (by decide +kernel) pl a.pa).imp fun σ H Q z => callC_E s_lstS ?_
    simp only [ev] at z
    exact z
  | .intS, e, es, xs, q, a => by
    obtain ⟨b, p, pos, rfl, rfl, g⟩ := syn_intS q
    obtain ⟨c, ec, pe, pl⟩ := a.one
    refine (call1_pe h (v := .type "int") (.inr rfl) call_int_str g (by decide) (by decide +kernel) pl a.pa).imp fun σ H Q z => callC_E s_intS ?_
    simp only [ev] at z
    exact z
  | .maxT, e, es, xs, q, a => by
    obtain ⟨b, p, pos, rfl, rfl, g⟩ := syn_maxT q
    obtain ⟨c, ec, pe, pl⟩ := a.one
    refine (call1_pe h (v := .builtin "max") (.inl rfl) (cr_maxT h.units h.calm) g (by decide) (by decide +kernel) pl a.pa).imp fun σ H Q z => callC_E s_maxT ?_
    simp only [ev] at z
    exact z
  | .minL, e, es, xs, q, a => by
    obtain ⟨b, p, pos, rfl, rfl, g⟩ := syn_minL q
    obtain ⟨c, ec, pe, pl⟩ := a.one
    refine (call1_pe h (v := .builtin "min") (.inl rfl) (cr_minL h.units h.calm) g (by decide) (by decide +kernel) pl a.pa).imp fun σ H Q z => callC_E s_minL ?_
    simp only [ev] at z
    exact z
end
end PLq
namespace PLq
open PySem L2
open RZ (ItzT iZipA pi_zipA)
def prIt : It → Bool
  | .zip _ _ => true
  | .enum _ => true
  | _ => false
theorem blk_ok {X : Cx} {ck : Ck} {ec : Ex → Addr} {W : WX} {Γ : Tbl} {C : Cns} (h : XOk X ck ec W Γ C) (scope : Scope) (s : Shared) (H : Hp) (Cc : Addr) (cl : List (Str × Addr)) (fp : List Addr) :
    XOk (X.blk s H scope (compEnvC scope cl Cc X.env) fp) { ck with sc := relS scope ck.sc } ec (fun _ _ _ _ => False) Γ C where
  N := h.N
  sc := by
    show relabel scope X.env = relS scope ck.sc
    rw [← h.sc]; rfl
  nd := h.nd
  calm := h.calm
  units := h.units
  fs := h.fs
  fn := h.fn
  cs := h.cs
  cn := h.cn
  free := h.free
  tk := let ⟨L, f, _⟩ := h.tk.ex; Tk.none (L := L) f
theorem blk_okx {X : Cx} {ck : Ck} {ec : Ex → Addr} {W W0 : WX} {Γ : Tbl} {C : Cns} (h : XOk X ck ec W Γ C) (scope : Scope) (s : Shared) (H : Hp) (Cc : Addr) (cl : List (Str × Addr)) (fp : List Addr) (xe : Value → Shared → Prop)
    (tk : Tk (Cx.xes (X.blk s H scope (compEnvC scope cl Cc X.env) fp) xe) W0) : XOk (Cx.xes (X.blk s H scope (compEnvC scope cl Cc X.env) fp) xe) { ck with sc := relS scope ck.sc } ec W0 Γ C where
  N := h.N
  sc := by
    show relabel scope X.env = relS scope ck.sc
    rw [← h.sc]; rfl
  nd := h.nd
  calm := h.calm
  units := h.units
  fs := h.fs
  fn := h.fn
  cs := h.cs
  cn := h.cn
  free := h.free
  tk := tk
theorem oks_plain {ck : Ck} : ∀ {xs : Cds} {es : List Expr}, oks ck xs es = true → es.all plainE = true
  | .nil, [], _ => rfl
  | .nil, _ :: _, o => Bool.noConfusion o
  | .cons a r, [], o => Bool.noConfusion o
  | .cons a r, e :: es, o => by
    simp only [oks, Bool.and_eq_true] at o
    rw [List.all_cons, o.1.2, oks_plain o.2]; rfl
theorem okBs_plain {ck : Ck} : ∀ {xs : Cds} {es : List Expr}, okBs ck xs es = true → es.all plainE = true
  | .nil, [], _ => rfl
  | .nil, _ :: _, o => Bool.noConfusion o
  | .cons a r, [], o => Bool.noConfusion o
  | .cons a r, e :: es, o => by
    simp only [okBs, Bool.and_eq_true] at o
    rw [List.all_cons, o.1.2, okBs_plain o.2]; rfl
theorem few1 (e : Expr) (h : plainE e = true) (env : PySem.Env) (cpos : Pos) : ((backTo cpos (starEach [e] env)).all (fun x => !x.1) && (backToKw cpos (keywordEach [] env)).all (fun x => x.1.isSome)
      && decide (([e] : List Expr).length + ([] : List Keyword).length + (if ([] : List Keyword).isEmpty then 0 else 1) < 30)) = true := by
  rw [star_plain h]; rfl
theorem Tbl.fn_at : ∀ (Γ : Tbl) (n : Nat) (p : Str × (List D → Res D)), Γ[n]? = some p → Γ.fn n = p.2
  | [], n, p, h => by simp at h
  | q :: r, 0, p, h => by simp at h; subst h; rfl
  | q :: r, n + 1, p, h => by
    have := Tbl.fn_at r n p (by simpa using h)
    exact this
theorem bif_pe {X : Cx} {ck : Ck} {ec : Ex → Addr} {W : WX} {Γ : Tbl} {C : Cns} (h : XOk X ck ec W Γ C) (b : Bif) {x : Str} {e : Expr} {es : List Expr} {p pos : Pos} {t : TA} (hx : x = b.nm) (g : ck.glob x = true) (pl : (e :: es).all plainE = true) (ha : PA X (e :: es) t) :
    PE X (.Call (.Name x p) (e :: es) [] pos) (tCB (rBif X b) t) := by
  obtain ⟨g1, g2, g3⟩ := h.gl g
  subst hx
  have hm : X.mg b.nm = none := h.free _ (by cases b <;> decide)
  simp only [List.all_cons, Bool.and_eq_true] at pl
  have hs := star_plain pl.1 es X.env
  have ha2 := star_any pos X.env pl.2
  have hb := Bif.boot b
  have hc := bif_call h.calm b
  cases b <;> first
    | exact pe_callB hc g1 hm hb ha g3 g2 hs ha2
    | exact pe_callTy hc g1 hm hb ha g3 g2 hs ha2
theorem okTg_tup {ck : Ck} {fc : Str → Bool} {tg : Tg} {e : Expr} (h : okTg ck fc tg e = true) : ∀ a b, tg = .tup2 a b → ∃ es k p, e = .Tuple es k p := by
  intro a b z
  subst z
  cases e with
  | Tuple es k p => exact ⟨es, k, p, rfl⟩
  | _ => exact Bool.noConfusion h
theorem okPr {ck : Ck} {tg : Tg} {it : It} {e : Expr} (hp : prIt it = true) (h : okIt ck tg it e = true) : ∃ a b, tg = .tup2 a b := by
  cases tg with
  | tup2 a b => exact ⟨a, b, rfl⟩
  | name i =>
    cases it with
    | zip a b => unfold okIt at h; split at h <;> simp_all
    | enum a => unfold okIt at h; split at h <;> simp_all
    | _ => cases hp
theorem val_T {X : Cx} {ec : Ex → Addr} {W : WX} {lin : List Nat} {e : Expr} {f : PLq.Env → Res D} (h : PE X e (tM false X.KK lin (wsh ec W) f)) (hb : byVal e = true) : PT X e (tT X.KK lin (wsh ec W) f) := by
  have h : PE X e (tE X.KK lin (wsh ec W) f) := h
  refine (pt_val h (fun whole => ?_)).imp fun _ _ _ q => tT_tB q
  cases e with
  | UnaryOp u _ _ => cases u <;> first | rfl | cases hb
  | _ => first | rfl | cases hb
mutual
theorem sndE {ec : Ex → Addr} {Γ : Tbl} {C : Cns} : ∀ (c : Cd) (m : Bool) (e : Expr) {X : Cx} {ck : Ck} {W : WX}, XOk X ck ec W Γ C → okE ck m c e = true → PE X e (tM m X.KK ck.lin (wsh ec W) (ev Γ C c))
  | .var i, m, e, X, ck, W, h, o => by
    cases e with
    | Name x pos =>
      simp only [okE, Bool.and_eq_true, Bool.not_eq_true'] at o
      exact PE.md ((h.var o.1).imp fun _ _ _ q => var_E o.2 q)
    | _ => exact Bool.noConfusion o
  | .lvar i, m, e, X, ck, W, h, o => by
    cases e with
    | Name x pos =>
      simp only [okE, Bool.and_eq_true] at o
      obtain ⟨⟨o1, o2⟩, o3⟩ := o
      subst o1
      exact (h.var o2).imp fun _ _ _ q => lvar_B o3 q
    | _ => exact Bool.noConfusion o
  | .int i, m, e, X, ck, W, h, o => by
    cases e with
    | Constant c k pos =>
      cases c with
      | int j =>
        simp only [okE, decide_eq_true_eq] at o
        subst o
        exact PE.md (pe_int.imp fun _ _ _ q => const_E (fun _ => .int _) q)
      | _ => exact Bool.noConfusion o
    | _ => exact Bool.noConfusion o
  | .str s, m, e, X, ck, W, h, o => by
    cases e with
    | Constant c k pos =>
      cases c with
      | str z =>
        simp only [okE, decide_eq_true_eq] at o
        subst o
        exact PE.md (pe_str.imp fun _ _ _ q => const_E (v := .str z) (fun H => by have r := Rep.str (K := X.KK) (H := H) z.cps.toList; rw [mkS_of] at r; exact r) q)
      | _ => exact Bool.noConfusion o
    | _ => exact Bool.noConfusion o
  | .bl b, m, e, X, ck, W, h, o => by
    cases e with
    | Constant c k pos =>
      cases c with
      | bool z =>
        simp only [okE, beq_iff_eq] at o
        subst o
        exact PE.md (pe_bl.imp fun _ _ _ q => const_E (fun _ => .bl _) q)
      | _ => exact Bool.noConfusion o
    | _ => exact Bool.noConfusion o
  | .non, m, e, X, ck, W, h, o => by
    cases e with
    | Constant c k pos =>
      cases c with
      | none => exact PE.md (pe_non.imp fun _ _ _ q => const_E (fun _ => .non) q)
      | _ => exact Bool.noConfusion o
    | _ => exact Bool.noConfusion o
  | .gstr n, m, e, X, ck, W, h, o => by
    cases e with
    | Name x pos =>
      simp only [okE, Bool.and_eq_true, decide_eq_true_eq] at o
      obtain ⟨o1, o2⟩ := o
      obtain ⟨g1, g2, g3⟩ := h.gl o1
      rw [← h.cs, List.getElem?_map, Option.map_eq_some_iff] at o2
      obtain ⟨p, e1, e2⟩ := o2
      obtain ⟨u, v, q1, q2, q3⟩ := h.cn n p e1
      subst e2
      refine PE.md ((pe_glob g1 q1 q2 g2).imp fun _ _ _ q => const_E (W := wsh ec W) (lin := ck.lin) (d := p.2) q3 ?_)
      simp only [ev, Cns.at, e1] at q
      exact q
    | _ => exact Bool.noConfusion o
  | .gint n, m, e, X, ck, W, h, o => by
    cases e with
    | Name x pos =>
      simp only [okE, Bool.and_eq_true, decide_eq_true_eq] at o
      obtain ⟨o1, o2⟩ := o
      obtain ⟨g1, g2, g3⟩ := h.gl o1
      rw [← h.cs, List.getElem?_map, Option.map_eq_some_iff] at o2
      obtain ⟨p, e1, e2⟩ := o2
      obtain ⟨u, v, q1, q2, q3⟩ := h.cn n p e1
      subst e2
      refine PE.md ((pe_glob g1 q1 q2 g2).imp fun _ _ _ q => const_E (W := wsh ec W) (lin := ck.lin) (d := p.2) q3 ?_)
      simp only [ev, Cns.at, e1] at q
      exact q
    | _ => exact Bool.noConfusion o
  | .bin op a b, m, e, X, ck, W, h, o => by
    cases e with
    | BinOp e1 oo e2 pos =>
      simp only [okE, Bool.and_eq_true, decide_eq_true_eq] at o
      obtain ⟨⟨o1, o2⟩, o3⟩ := o
      subst o1
      have p1 := sndE a true e1 h o2
      have p2 := sndE b true e2 h o3
      cases op with
      | add => exact PE.md ((pe_op op_adds p1 p2).imp fun _ _ _ q => tOp_of s_add _ _ _ q)
      | sub => exact PE.md ((pe_op op_sub p1 p2).imp fun _ _ _ q => tOp_of s_sub _ _ _ q)
      | mul => exact PE.md ((pe_op op_muls p1 p2).imp fun _ _ _ q => tOp_of s_mul _ _ _ q)
      | mod => exact PE.md ((pe_op op_mod p1 p2).imp fun _ _ _ q => tOp_of s_mod _ _ _ q)
      | div => exact PE.md ((pe_op op_fdivW p1 p2).imp fun _ _ _ q => tOp_of s_div _ _ _ q)
    | _ => exact Bool.noConfusion o
  | .neg a, m, e, X, ck, W, h, o => by
    cases e with
    | UnaryOp u e1 pos =>
      cases u with
      | USub =>
        simp only [okE] at o
        exact PE.md ((pe_un un_neg (sndE a true e1 h o)).imp fun _ _ _ q => tUn_of s_neg _ _ _ q)
      | _ => exact Bool.noConfusion o
    | _ => exact Bool.noConfusion o
  | .cmp c a b, m, e, X, ck, W, h, o => by
    cases e with
    | Compare e1 ops es pos =>
      match ops, es, o with
      | [op], [e2], o =>
        simp only [okE, Bool.and_eq_true, decide_eq_true_eq] at o
        obtain ⟨⟨⟨o1, o2⟩, o3⟩, o4⟩ := o
        subst o1
        exact PE.md ((pe_cmpR (op_cmp h.units c) (sndE a true e1 h o2) (sndE b true e2 h o3) (noBehind o4 _)).imp fun _ _ _ q => tOp_of (s_cmp c) _ _ _ q)
      | [], _, o => exact Bool.noConfusion o
      | _ :: _ :: _, _, o => exact Bool.noConfusion o
      | [_], [], o => exact Bool.noConfusion o
      | [_], _ :: _ :: _, o => exact Bool.noConfusion o
    | _ => exact Bool.noConfusion o
  | .chain c1 c2 a b c, m, e, X, ck, W, h, o => by
    cases e with
    | Compare e1 ops es pos =>
      match ops, es, o with
      | [o1, o2], [e2, e3], o =>
        simp only [okE, Bool.and_eq_true, decide_eq_true_eq] at o
        obtain ⟨⟨⟨⟨⟨⟨q1, q2⟩, q3⟩, q4⟩, q5⟩, q6⟩, q7⟩ := o
        subst q1 q2
        refine PE.md ((pe_chain (op_cmp h.units c1) (op_cmp h.units c2) (sndE a false e1 h q3) (sndE b false e2 h q4) (sndE c false e3 h q5) ?_).imp fun _ _ _ q => chain_E q)
        show behindInMarks c2.op e3 = false
        exact noBehind q7 _
      | [], _, o => exact Bool.noConfusion o
      | [_], _, o => exact Bool.noConfusion o
      | _ :: _ :: _ :: _, _, o => exact Bool.noConfusion o
      | [_, _], [], o => exact Bool.noConfusion o
      | [_, _], [_], o => exact Bool.noConfusion o
      | [_, _], _ :: _ :: _ :: _, o => exact Bool.noConfusion o
    | _ => exact Bool.noConfusion o
  | .and a b, m, e, X, ck, W, h, o => by
    cases e with
    | BoolOp op es pos =>
      cases op with
      | And =>
        match es, o with
        | [e1, e2], o =>
          simp only [okE, Bool.and_eq_true] at o
          exact PE.md ((pe_and (sndE a false e1 h o.1) (pe_one (sndE b false e2 h o.2))).imp fun _ _ _ q => and_E q)
        | e1 :: e2 :: e3 :: r, o =>
          simp only [okE, Bool.and_eq_true] at o
          exact PE.md ((pe_and (sndE a false e1 h o.1) (sndE b false _ h o.2)).imp fun _ _ _ q => and_E q)
        | [], o => exact Bool.noConfusion o
        | [_], o => exact Bool.noConfusion o
      | Or => exact Bool.noConfusion o
    | _ => exact Bool.noConfusion o
  | .or a b, m, e, X, ck, W, h, o => by
    cases e with
    | BoolOp op es pos =>
      cases op with
      | Or =>
        match es, o with
        | [e1, e2], o =>
          simp only [okE, Bool.and_eq_true] at o
          exact PE.md ((pe_or (sndE a false e1 h o.1) (pe_one (sndE b false e2 h o.2))).imp fun _ _ _ q => or_E q)
        | e1 :: e2 :: e3 :: r, o =>
          simp only [okE, Bool.and_eq_true] at o
          exact PE.md ((pe_or (sndE a false e1 h o.1) (sndE b false _ h o.2)).imp fun _ _ _ q => or_E q)
        | [], o => exact Bool.noConfusion o
        | [_], o => exact Bool.noConfusion o
      | And => exact Bool.noConfusion o
    | _ => exact Bool.noConfusion o
  | .not a, m, e, X, ck, W, h, o => by
    cases e with
    | UnaryOp u e1 pos =>
      cases u with
      | Not =>
        simp only [okE] at o
        exact PE.md ((pe_not (sndE a false e1 h o)).imp fun _ _ _ q => not_E q)
      | _ => exact Bool.noConfusion o
    | _ => exact Bool.noConfusion o
  | .ite c a b, m, e, X, ck, W, h, o => by
    cases e with
    | IfExp e1 e2 e3 pos =>
      simp only [okE, Bool.and_eq_true] at o
      obtain ⟨⟨⟨o0, o1⟩, o2⟩, o3⟩ := o
      exact PE.md ((pe_ifExp (sndT c e1 h o0 o1) (sndE a false e2 h o2) (sndE b false e3 h o3)).imp fun _ _ _ q => ite_E q)
    | _ => exact Bool.noConfusion o
  | .tup xs, m, e, X, ck, W, h, o => by
    cases e with
    | Tuple es k pos =>
      simp only [okE] at o
      exact PE.md ((pe_tupF (sndS xs es h o)).imp fun _ _ _ q => tup_E q)
    | _ => exact Bool.noConfusion o
  | .lst xs, m, e, X, ck, W, h, o => by
    cases e with
    | List es pos =>
      simp only [okE] at o
      exact PE.md ((pe_lst (sndS xs es h o)).imp fun _ _ _ q => lst_F (tF_tE q))
    | _ => exact Bool.noConfusion o
  | .dnew, m, e, X, ck, W, h, o => by
    cases e with
    | Dict ks vs pos =>
      match ks, vs, o with
      | [], [], _ => exact PE.md (pe_dnewK.imp fun _ _ _ q => dnew_F (tF_tE q))
      | _ :: _, _, o => exact Bool.noConfusion o
      | [], _ :: _, o => exact Bool.noConfusion o
    | _ => exact Bool.noConfusion o
  | .dnewT, m, e, X, ck, W, h, o => by
    cases e with
    | Dict ks vs pos =>
      match ks, vs, o with
      | [], [], _ => exact PE.md (PE.imp (pe_dnewR (X := X)) fun _ _ _ q => dnewT_F (K := X.KK) (tF_tE q))
      | _ :: _, _, o => exact Bool.noConfusion o
      | [], _ :: _, o => exact Bool.noConfusion o
    | _ => exact Bool.noConfusion o
  | .idx a i, m, e, X, ck, W, h, o => by
    cases e with
    | Subscript e1 e2 pos =>
      simp only [okE, Bool.and_eq_true] at o
      obtain ⟨⟨o1, o2⟩, o3⟩ := o
      exact PE.md ((pe_ix ix_seq (sndE a true e1 h o1) (PEB (sndE i false e2 h o2)) (plainIx o3)).imp fun _ _ _ q => tOp_of s_idx _ _ _ q)
    | _ => exact Bool.noConfusion o
  | .get3 a k x, m, e, X, ck, W, h, o => by
    cases e with
    | Call f es ks pos =>
      cases f with
      | Attribute e1 y p1 =>
        match es, ks, o with
        | [e2, e3], [], o =>
          simp only [okE, Bool.and_eq_true, decide_eq_true_eq] at o
          obtain ⟨⟨⟨⟨⟨⟨⟨o1, o2⟩, o3⟩, o4⟩, o5⟩, o6⟩, o7⟩, o8⟩ := o
          subst o1
          refine PE.md ((pe_dget2 (by have := h.units; omega) (sndE a true e1 h o2) (sndE k false e2 h o3) (sndE x false e3 h o4) ⟨base_plain o8 _ _ _, ?_, o7, ?_⟩).imp fun _ _ _ q => get3_E q)
          · rw [star_plain o5, star_plain o6]; rfl
          · rw [star_plain o5, star_plain o6]; rfl
        | [], [], o => exact Bool.noConfusion o
        | [_], [], o => exact Bool.noConfusion o
        | _ :: _ :: _ :: _, [], o => exact Bool.noConfusion o
        | _, _ :: _, o => simp [okE] at o
      | _ => exact Bool.noConfusion o
    | _ => exact Bool.noConfusion o
  | .dget a i, m, e, X, ck, W, h, o => by
    cases e with
    | Subscript e1 e2 pos =>
      simp only [okE, Bool.and_eq_true] at o
      obtain ⟨⟨o1, o2⟩, o3⟩ := o
      exact PE.md ((pe_dget (by have := h.units; omega) (sndE a true e1 h o1) (sndE i false e2 h o2) (noSl o3)).imp fun _ _ _ q => dget_E q)
    | _ => exact Bool.noConfusion o
  | .sl0 a lo, m, e, X, ck, W, h, o => by
    cases e with
    | Subscript e1 e2 pos =>
      cases e2 with
      | Slice l u s p2 =>
        match l, u, s, o with
        | some el, none, none, o =>
          simp only [okE, Bool.and_eq_true] at o
          exact PE.md ((pe_slice sl_all (sndE a true e1 h o.1) (po_some (sndE lo false el h o.2)) po_none).imp fun _ _ _ q => sl0_E q)
        | none, _, _, o => exact Bool.noConfusion o
        | some _, some _, _, o => exact Bool.noConfusion o
        | some _, none, some _, o => exact Bool.noConfusion o
      | _ => exact Bool.noConfusion o
    | _ => exact Bool.noConfusion o
  | .sl1 a hi, m, e, X, ck, W, h, o => by
    cases e with
    | Subscript e1 e2 pos =>
      cases e2 with
      | Slice l u s p2 =>
        match l, u, s, o with
        | none, some eu, none, o =>
          simp only [okE, Bool.and_eq_true] at o
          exact PE.md ((pe_slice sl_all (sndE a true e1 h o.1) po_none (po_some (sndE hi false eu h o.2))).imp fun _ _ _ q => sl1_E q)
        | some _, _, _, o => exact Bool.noConfusion o
        | none, none, _, o => exact Bool.noConfusion o
        | none, some _, some _, o => exact Bool.noConfusion o
      | _ => exact Bool.noConfusion o
    | _ => exact Bool.noConfusion o
  | .sl2 a lo hi, m, e, X, ck, W, h, o => by
    cases e with
    | Subscript e1 e2 pos =>
      cases e2 with
      | Slice l u s p2 =>
        match l, u, s, o with
        | some el, some eu, none, o =>
          simp only [okE, Bool.and_eq_true] at o
          exact PE.md ((pe_slice sl_all (sndE a true e1 h o.1.1) (po_some (sndE lo false el h o.1.2)) (po_some (sndE hi false eu h o.2))).imp fun _ _ _ q => sl2_E q)
        | none, _, _, o => exact Bool.noConfusion o
        | some _, none, _, o => exact Bool.noConfusion o
        | some _, some _, some _, o => exact Bool.noConfusion o
      | _ => exact Bool.noConfusion o
    | _ => exact Bool.noConfusion o
  | .isi t a, m, e, X, ck, W, h, o => by
    cases e with
    | Call f es ks pos =>
      match f, es, ks, o with
      | .Name x p, [e1, .Name y p2], [], o =>
        simp only [okE, Bool.and_eq_true, decide_eq_true_eq] at o
        obtain ⟨⟨⟨⟨⟨o1, o2⟩, o3⟩, o4⟩, o5⟩, o6⟩ := o
        subst o1 o5
        obtain ⟨g1, g2, g3⟩ := h.gl o2
        obtain ⟨k1, k2, k3⟩ := h.gl o6
        have hm : X.mg "isinstance" = none := h.free _ (by decide)
        have hm2 : X.mg t.nm = none := h.free _ (by cases t <;> decide)
        have pT : PE X (.Name t.nm p2) (tC (.ty t.s)) := by
          cases t <;> exact pe_bltn (v := .ty _) (u := .type _) k1 hm2 (by decide +kernel) rfl k3 k2
        have pa : PA X [e1, .Name t.nm p2] (tCons (tB X.KK ck.lin (wsh ec W) (ev Γ C a)) (tCons (tC (.ty t.s)) tNil)) :=
          pa_cons (sndE a true e1 h o3) (pa_cons pT pa_nil rfl) (star_plain o4 _ _)
        refine PE.md ((pe_callB call_isiY g1 hm (by decide +kernel) pa g3 g2 (star_plain o4 _ _) ?_).imp fun _ _ _ q => isi_E t q)
        rfl
      | .Name _ _, [], _, o => exact Bool.noConfusion o
      | .Name _ _, [_], _, o => exact Bool.noConfusion o
      | .Name _ _, _ :: e2 :: _ :: _, _, o => cases e2 <;> exact Bool.noConfusion o
      | .Name _ _, [_, e2], _ :: _, o => cases e2 <;> exact Bool.noConfusion o
      | .Name _ _, [_, .BoolOp ..], [], o | .Name _ _, [_, .NamedExpr ..], [], o | .Name _ _, [_, .BinOp ..], [], o | .Name _ _, [_, .UnaryOp ..], [], o | .Name _ _, [_, .Lambda ..], [], o | .Name _ _, [_, .IfExp ..], [], o
      | .Name _ _, [_, .Dict ..], [], o | .Name _ _, [_, .Set ..], [], o | .Name _ _, [_, .ListComp ..], [], o | .Name _ _, [_, .SetComp ..], [], o | .Name _ _, [_, .DictComp ..], [], o | .Name _ _, [_, .GeneratorExp ..], [], o
      | .Name _ _, [_, .Await ..], [], o | .Name _ _, [_, .Yield ..], [], o | .Name _ _, [_, .YieldFrom ..], [], o | .Name _ _, [_, .Compare ..], [], o | .Name _ _, [_, .Call ..], [], o | .Name _ _, [_, .FormattedValue ..], [], o
      | .Name _ _, [_, .JoinedStr ..], [], o | .Name _ _, [_, .Constant ..], [], o | .Name _ _, [_, .Attribute ..], [], o | .Name _ _, [_, .Subscript ..], [], o | .Name _ _, [_, .Starred ..], [], o | .Name _ _, [_, .List ..], [], o
      | .Name _ _, [_, .Tuple ..], [], o | .Name _ _, [_, .Slice ..], [], o => exact Bool.noConfusion o
      | .BoolOp .., _, _, o | .NamedExpr .., _, _, o | .BinOp .., _, _, o | .UnaryOp .., _, _, o | .Lambda .., _, _, o | .IfExp .., _, _, o | .Dict .., _, _, o | .Set .., _, _, o | .ListComp .., _, _, o | .SetComp .., _, _, o | .DictComp .., _, _, o
      | .GeneratorExp .., _, _, o | .Await .., _, _, o | .Yield .., _, _, o | .YieldFrom .., _, _, o | .Compare .., _, _, o | .Call .., _, _, o | .FormattedValue .., _, _, o | .JoinedStr .., _, _, o | .Constant .., _, _, o | .Attribute .., _, _, o
      | .Subscript .., _, _, o | .Starred .., _, _, o | .List .., _, _, o | .Tuple .., _, _, o | .Slice .., _, _, o => exact Bool.noConfusion o
    | _ => exact Bool.noConfusion o
  | .bif b xs, m, e, X, ck, W, h, o => by
    cases e with
    | Call f es ks pos =>
      cases f with
      | Name x p =>
        match es, ks, o with
        | e1 :: es, [], o =>
          simp only [okE, Bool.and_eq_true, decide_eq_true_eq] at o
          obtain ⟨⟨⟨o1, o2⟩, o3⟩, _⟩ := o
          exact PE.md ((bif_pe h b o1 o2 (okBs_plain o3) (sndBs xs _ h o3)).imp fun _ _ _ q => bif_E b q)
        | [], [], o =>
          simp only [okE, Bool.and_eq_true] at o
          exact Bool.noConfusion o.2
        | _, _ :: _, o => exact Bool.noConfusion o
      | _ => exact Bool.noConfusion o
    | _ => exact Bool.noConfusion o
  | .met mm a xs, m, e, X, ck, W, h, o => by
    cases e with
    | Call f es ks pos =>
      cases f with
      | Attribute e1 x p1 =>
        match es, ks, o with
        | [e2], [], o =>
          simp only [okE, Bool.and_eq_true, decide_eq_true_eq] at o
          obtain ⟨⟨⟨⟨⟨o1, o2⟩, o3⟩, o4⟩, o5⟩, _⟩ := o
          subst o1
          have pl := okBs_plain o3
          simp only [List.all_cons, List.all_nil, Bool.and_true] at pl
          exact PE.md ((pe_bmW mm.plain mm.slot mm.ty (met_call mm) (sndE a false e1 h o2) (sndBs xs _ h o3) (base_plain o5 _ _ _) (few1 e2 pl _ _) o4 (star_plain pl _ _) rfl).imp fun _ _ _ q => met_E h.units mm q)
        | [], [], o => simp [okE] at o
        | [], _ :: _, o => exact Bool.noConfusion o
        | _ :: _ :: _, [], o => simp [okE] at o
        | _ :: _ :: _, _ :: _, o => exact Bool.noConfusion o
        | [_], _ :: _, o => exact Bool.noConfusion o
      | _ => exact Bool.noConfusion o
    | _ => exact Bool.noConfusion o
  | .call0 n, m, e, X, ck, W, h, o => by
    cases e with
    | Call f es ks pos =>
      cases f with
      | Name x p =>
        match es, ks, o with
        | [], [], o =>
          simp only [okE, Bool.and_eq_true, decide_eq_true_eq] at o
          obtain ⟨o1, o2⟩ := o
          obtain ⟨g1, g2, g3⟩ := h.gl o2
          rw [← h.fs, List.getElem?_map, Option.map_eq_some_iff] at o1
          obtain ⟨pp, e1', e2'⟩ := o1
          obtain ⟨nn, k, f, fd, ps, hn, F, hm, hk, hb, hr, _⟩ := h.fn n pp e1'
          rw [e2'] at hm
          have F' : FnOk X.prog X.w X.KK X.mg X.base (L2.CX X.prog X.w) k f fd ps (spP X.KK ec nn pp.2) := F
          refine PE.md ((pe_call0S F' hr g1 hm hk hb (fun σ => h.tk.pass σ) g2).imp fun σ H Q q => ?_)
          refine call0_E (lin := ck.lin) (n := nn) (F := pp.2) hn ?_
          have e : ev Γ C (.call0 n) = fun _ => pp.2 [] := by
            funext ρ
            simp only [ev]
            rw [Tbl.fn_at Γ n pp e1']
          rw [e] at q
          exact q
        | _ :: _, [], o => exact Bool.noConfusion o
        | [], _ :: _, o => exact Bool.noConfusion o
        | _ :: _, _ :: _, o => exact Bool.noConfusion o
      | _ => exact Bool.noConfusion o
    | _ => exact Bool.noConfusion o
  | .fcall ns w xs, m, e, X, ck, W, h, o => by
    cases e with
    | Call f es ks pos =>
      cases f with
      | Subscript a b p1 =>
        cases a with
        | List fl p2 =>
          match es, ks, o with
          | e1 :: es, [], o =>
            simp only [okE, Bool.and_eq_true, decide_eq_true_eq] at o
            obtain ⟨⟨⟨⟨o1, o2⟩, o3⟩, o4⟩, o5⟩ := o
            obtain ⟨as, l, r, pa⟩ := pa_refs h ns fl o2
            have pl := oks_plain o5
            simp only [List.all_cons, Bool.and_eq_true] at pl
            refine PE.md ((pe_callV (pe_ix ix_seq (pe_lst pa) (sndE w false b h o3) (plainIx o4)) (fun σ => h.tk.pass σ) (sndS xs _ h o5) rfl (star_plain pl.1 _ _) (star_any _ _ pl.2)).imp fun σ H Q q => ?_)
            have e : ev Γ C (.fcall ns w xs) = fun ρ => (ev Γ C w ρ).bind fun y => (ofO (selN ns y)).bind fun n => (evs Γ C xs ρ).bind fun ds => Γ.fn n ds := by
              funext ρ
              simp only [ev]
            rw [e] at q
            exact fcall_E (by omega) r q (Tbl.fn_at Γ)
          | [], [], o => exact Bool.noConfusion o
          | [], _ :: _, o => exact Bool.noConfusion o
          | _ :: _, _ :: _, o => exact Bool.noConfusion o
        | _ => exact Bool.noConfusion o
      | _ => exact Bool.noConfusion o
    | _ => exact Bool.noConfusion o
  | .callL n xs, m, e, X, ck, W, h, o => by
    cases e with
    | Call f es ks pos =>
      cases f with
      | Name x p =>
        match es, ks, o with
        | e1 :: es, [], o =>
          simp only [okE, Bool.and_eq_true, decide_eq_true_eq] at o
          obtain ⟨⟨⟨⟨o1, o2⟩, of⟩, o3⟩, _⟩ := o
          obtain ⟨g1, g2, g3⟩ := h.gl o2
          rw [← h.fs, List.getElem?_map, Option.map_eq_some_iff] at o1
          obtain ⟨pp, e1', e2'⟩ := o1
          obtain ⟨nn, k, f, fd, ps, hn, F, hm, hk, hb, hr, FF, _⟩ := h.fn n pp e1'
          rw [e2'] at hm
          have pl := okBs_plain o3
          simp only [List.all_cons, Bool.and_eq_true] at pl
          have F' : FnOk X.prog X.w X.KK X.mg X.base (L2.CX X.prog X.w) k f fd ps (spF X.KK ec nn pp.2) := FF (by rw [e2']; exact of)
          refine PE.md ((pe_callS F' hr g1 hm hk hb (fun σ => h.tk.pass σ) (sndBs xs _ h o3) g2 (star_plain pl.1 _ _) (star_any _ _ pl.2)).imp fun σ H Q q => ?_)
          refine callL_E (n := nn) (F := pp.2) hn ?_
          have e : ev Γ C (.callL n xs) = fun ρ => (evs Γ C xs ρ).bind fun ds => (pp.2 ds).bind flatR := by
            funext ρ
            simp only [ev]
            rw [Tbl.fn_at Γ n pp e1']
          rw [e] at q
          exact q
        | [], [], o =>
          simp only [okE, Bool.and_eq_true] at o
          exact Bool.noConfusion o.2
        | _, _ :: _, o => exact Bool.noConfusion o
      | _ => exact Bool.noConfusion o
    | _ => exact Bool.noConfusion o
  | .call n xs, m, e, X, ck, W, h, o => by
    cases e with
    | Call f es ks pos =>
      cases f with
      | Name x p =>
        match es, ks, o with
        | e1 :: es, [], o =>
          simp only [okE, Bool.and_eq_true, decide_eq_true_eq] at o
          obtain ⟨⟨⟨o1, o2⟩, o3⟩, _⟩ := o
          obtain ⟨g1, g2, g3⟩ := h.gl o2
          rw [← h.fs, List.getElem?_map, Option.map_eq_some_iff] at o1
          obtain ⟨pp, e1', e2'⟩ := o1
          obtain ⟨nn, k, f, fd, ps, hn, F, hm, hk, hb, hr, _⟩ := h.fn n pp e1'
          rw [e2'] at hm
          have pl := oks_plain o3
          simp only [List.all_cons, Bool.and_eq_true] at pl
          have F' : FnOk X.prog X.w X.KK X.mg X.base (L2.CX X.prog X.w) k f fd ps (spP X.KK ec nn pp.2) := F
          refine PE.md ((pe_callS F' hr g1 hm hk hb (fun σ => h.tk.pass σ) (sndS xs _ h o3) g2 (star_plain pl.1 _ _) (star_any _ _ pl.2)).imp fun σ H Q q => ?_)
          refine call_E (n := nn) (F := pp.2) hn ?_
          have e : ev Γ C (.call n xs) = fun ρ => (evs Γ C xs ρ).bind pp.2 := by
            funext ρ
            simp only [ev]
            rw [Tbl.fn_at Γ n pp e1']
          rw [e] at q
          exact q
        | [], [], o =>
          simp only [okE, Bool.and_eq_true] at o
          exact Bool.noConfusion o.2
        | _, _ :: _, o => exact Bool.noConfusion o
      | _ => exact Bool.noConfusion o
    | _ => exact Bool.noConfusion o
  | .xop op xs, m, e, X, ck, W, h, o => by
    unfold okE at o
    cases q : xSyn ck op e with
    | none => rw [q] at o; exact Bool.noConfusion o
    | some es =>
      rw [q] at o
      exact PE.md (xop_E h op q (sndVs xs es h o))
  | .lc own tg it c el, m, e, X, ck, W, h, o => by
    cases e with
    | ListComp elt gens scope pos =>
      match gens, o with
      | [⟨target, iter, ifs, isa⟩], o =>
        simp only [okE, Bool.and_eq_true, decide_eq_true_eq] at o
        obtain ⟨⟨⟨⟨⟨⟨⟨⟨⟨o1, o2⟩, o3⟩, o4⟩, o5⟩, o6⟩, o7⟩, o8⟩, o9⟩, o10⟩ := o
        subst o1
        have hh := fun s H Cc cl fp => blk_ok h scope s H Cc cl fp
        have pi := sndI it tg target iter h o4 (okTg_tup o6)
        have htt : ∃ tt : TT, (∀ (s : Shared) (H : Hp) (Cc : Addr) (cl : List (Str × Addr)) (fp : List Addr), PTs (X.blk s H scope (compEnvC scope cl Cc X.env) fp) ifs tt) ∧
            ∀ σ H Q, tT X.KK ck.lin (wsh ec fun _ _ _ _ => False) (ev Γ C c) σ H Q → tt σ H Q := by
          match ifs, o9 with
          | [], o9 =>
            cases c with
            | bl b =>
              cases b with
              | true => exact ⟨tYes, fun _ _ _ _ _ => pts_nil, fun _ _ _ q => okb_T q⟩
              | false => exact Bool.noConfusion o9
            | _ => exact Bool.noConfusion o9
          | [t], o9 => exact ⟨_, fun s H Cc cl fp => pts_one (sndT c t (hh s H Cc cl fp) o2 o9), fun _ _ _ q => q⟩
          | _ :: _ :: _, o9 => exact Bool.noConfusion o9
        obtain ⟨tt, ht1, ht2⟩ := htt
        have bk : BlkOk X.N X.env.scope scope (own.map fun i => (ck.N.getD i Str.empty, i)) := blkOk_by (by rw [h.N, h.sc]; exact o3)
        have e2 : (own.map fun i => (ck.N.getD i Str.empty, i)).map (·.2) = own := by rw [List.map_map]; simp [Function.comp_def]
        have free : tgFree ck.lin tg := okTg_free (ck := { ck with sc := relS scope ck.sc }) tg target o6
        have pel : ∀ (s : Shared) (H : Hp) (Cc : Addr) (cl : List (Str × Addr)) (fp : List Addr) (xe : Value → Shared → Prop) (W0 : WX), Tk (Cx.xes (X.blk s H scope (compEnvC scope cl Cc X.env) fp) xe) W0 → PE (Cx.xes (X.blk s H scope (compEnvC scope cl Cc X.env) fp) xe) elt ((fun W0 => tE X.KK ck.lin (wsh ec W0) (ev Γ C el)) W0) :=
          fun s H Cc cl fp xe W0 tk => sndE (ck := { ck with sc := relS scope ck.sc }) el false elt (blk_okx h scope s H Cc cl fp xe tk) o10
        have ptg : ∀ (s : Shared) (H : Hp) (Cc : Addr) (cl : List (Str × Addr)) (fp : List Addr), PG (X.blk s H scope (compEnvC scope cl Cc X.env) fp) target (rdTg X.KK tg) := fun s H Cc cl fp => (sndTg (ck := { ck with sc := relS scope ck.sc }) (hh s H Cc cl fp) (fun _ z => z) tg target o6).1
        have pl := pe_lcx (te := fun W0 => tE X.KK ck.lin (wsh ec W0) (ev Γ C el)) (own := own.map fun i => (ck.N.getD i Str.empty, i)) (pos := pos) h.tk h.calm h.nd pi bk ptg ht1 pel (folded o5 _)
        rw [e2] at pl
        exact PE.md (pl.imp fun _ _ _ q => lc_F free o7 (fun hp => okPr hp o4) ht2 (fun _ _ _ z => z) (tF_tE q))
      | [], o => exact Bool.noConfusion o
      | g0 :: g :: _, o => cases g0; cases g; exact Bool.noConfusion o
    | _ => exact Bool.noConfusion o
  | .lcD own tg i c el, m, e, X, ck, W, h, o => by
    cases e with
    | ListComp elt gens scope pos =>
      match gens, o with
      | [⟨target, iter, ifs, isa⟩], o =>
        cases iter with
        | Name x px =>
          simp only [okE, Bool.and_eq_true, decide_eq_true_eq] at o
          obtain ⟨⟨⟨⟨⟨⟨⟨⟨⟨o1, o2⟩, o3⟩, o4⟩, o5⟩, o6⟩, o7⟩, o8⟩, o9⟩, o10⟩ := o
          subst o1
          have hh := fun s H Cc cl fp => blk_ok h scope s H Cc cl fp
          have hi : i ∉ ck.lin := fun z => by rw [List.contains_iff_mem.mpr z] at o5; cases o5
          have htt : ∃ tt : TT, (∀ (s : Shared) (H : Hp) (Cc : Addr) (cl : List (Str × Addr)) (fp : List Addr), PTs (X.blk s H scope (compEnvC scope cl Cc X.env) fp) ifs tt) ∧
              ∀ σ H Q, tT X.KK ck.lin (wsh ec fun _ _ _ _ => False) (ev Γ C c) σ H Q → tt σ H Q := by
            match ifs, o9 with
            | [], o9 =>
              cases c with
              | bl b =>
                cases b with
                | true => exact ⟨tYes, fun _ _ _ _ _ => pts_nil, fun _ _ _ q => okb_T q⟩
                | false => exact Bool.noConfusion o9
              | _ => exact Bool.noConfusion o9
            | [t], o9 => exact ⟨_, fun s H Cc cl fp => pts_one (sndT c t (hh s H Cc cl fp) o2 o9), fun _ _ _ q => q⟩
            | _ :: _ :: _, o9 => exact Bool.noConfusion o9
          obtain ⟨tt, ht1, ht2⟩ := htt
          have bk : BlkOk X.N X.env.scope scope (own.map fun i => (ck.N.getD i Str.empty, i)) := blkOk_by (by rw [h.N, h.sc]; exact o3)
          have e2 : (own.map fun i => (ck.N.getD i Str.empty, i)).map (·.2) = own := by rw [List.map_map]; simp [Function.comp_def]
          have free : tgFree ck.lin tg := okTg_free (ck := { ck with sc := relS scope ck.sc }) tg target o6
          have pel : ∀ (s : Shared) (H : Hp) (Cc : Addr) (cl : List (Str × Addr)) (fp : List Addr), PE (X.blk s H scope (compEnvC scope cl Cc X.env) fp) elt (tE X.KK ck.lin (wsh ec fun _ _ _ _ => False) (ev Γ C el)) := fun s H Cc cl fp => sndE (ck := { ck with sc := relS scope ck.sc }) el false elt (hh s H Cc cl fp) o10
          have ptg : ∀ (s : Shared) (H : Hp) (Cc : Addr) (cl : List (Str × Addr)) (fp : List Addr), PG (X.blk s H scope (compEnvC scope cl Cc X.env) fp) target (rdTg X.KK tg) := fun s H Cc cl fp => (sndTg (ck := { ck with sc := relS scope ck.sc }) (hh s H Cc cl fp) (fun _ z => z) tg target o6).1
          have pl := pe_lc (own := own.map fun i => (ck.N.getD i Str.empty, i)) (pos := pos) h.calm h.nd (pi_keys (h.var o4 (pos := px))) bk ptg ht1 pel (folded rfl _)
          rw [e2] at pl
          refine PE.md ((PE.or' (pe_lock pl) pl).imp fun _ _ _ q => ?_)
          have q := tF_tE q
          simp only [ev] at q
          exact lcD_F hi free o7 ht2 q
        | _ => exact Bool.noConfusion o
      | [], o => exact Bool.noConfusion o
      | g0 :: g :: _, o => cases g0 with | mk t it' f a => cases it' <;> exact Bool.noConfusion o
    | _ => exact Bool.noConfusion o
theorem sndT {ec : Ex → Addr} {Γ : Tbl} {C : Cns} : ∀ (c : Cd) (e : Expr) {X : Cx} {ck : Ck} {W : WX}, XOk X ck ec W Γ C → tstOk c = true → okE ck false c e = true → PT X e (tT X.KK ck.lin (wsh ec W) (ev Γ C c))
  | .and a b, e, X, ck, W, h, t, o => by
    cases e with
    | BoolOp op es pos =>
      cases op with
      | And =>
        simp only [tstOk, Bool.and_eq_true] at t
        match es, o with
        | [e1, e2], o =>
          simp only [okE, Bool.and_eq_true] at o
          exact (pw_and (sndT a e1 h t.1 o.1) (pw_and1 (sndT b e2 h t.2 o.2))).pt.imp fun _ _ _ q => and_T q
        | e1 :: e2 :: e3 :: r, o =>
          simp only [okE, Bool.and_eq_true] at o
          have p := sndT b _ h t.2 o.2
          exact (pw_and (sndT a e1 h t.1 o.1) ⟨fun _ => p.run⟩).pt.imp fun _ _ _ q => and_T q
        | [], o => exact Bool.noConfusion o
        | [_], o => exact Bool.noConfusion o
      | Or => exact Bool.noConfusion o
    | _ => exact Bool.noConfusion o
  | .or a b, e, X, ck, W, h, t, o => by
    cases e with
    | BoolOp op es pos =>
      cases op with
      | Or =>
        simp only [tstOk, Bool.and_eq_true] at t
        match es, o with
        | [e1, e2], o =>
          simp only [okE, Bool.and_eq_true] at o
          exact (pw_or (sndT a e1 h t.1 o.1) (pw_or1 (sndT b e2 h t.2 o.2))).pt.imp fun _ _ _ q => or_T q
        | e1 :: e2 :: e3 :: r, o =>
          simp only [okE, Bool.and_eq_true] at o
          have p := sndT b _ h t.2 o.2
          exact (pw_or (sndT a e1 h t.1 o.1) ⟨fun _ => p.run⟩).pt.imp fun _ _ _ q => or_T q
        | [], o => exact Bool.noConfusion o
        | [_], o => exact Bool.noConfusion o
      | And => exact Bool.noConfusion o
    | _ => exact Bool.noConfusion o
  | .not a, e, X, ck, W, h, t, o => by
    cases e with
    | UnaryOp u e1 pos =>
      cases u with
      | Not =>
        simp only [okE] at o
        simp only [tstOk] at t
        exact (pt_not (sndT a e1 h t o)).imp fun _ _ _ q => not_T q
      | _ => exact Bool.noConfusion o
    | _ => exact Bool.noConfusion o
  | .cmp c a b, e, X, ck, W, h, t, o => by
    cases e with
    | Compare e1 ops es pos =>
      match ops, es, o with
      | [op], [e2], o =>
        simp only [okE, Bool.and_eq_true, decide_eq_true_eq] at o
        obtain ⟨⟨⟨o1, o2⟩, o3⟩, o4⟩ := o
        subst o1
        exact (pt_cmpR (op_cmp h.units c) (sndE a true e1 h o2) (sndE b true e2 h o3) (noBehind o4 _)).imp fun _ _ _ q => tOp_of (s_cmp c) _ _ _ (tT_tB q)
      | [], _, o => exact Bool.noConfusion o
      | _ :: _ :: _, _, o => exact Bool.noConfusion o
      | [_], [], o => exact Bool.noConfusion o
      | [_], _ :: _ :: _, o => exact Bool.noConfusion o
    | _ => exact Bool.noConfusion o
  | .chain c1 c2 a b c, e, X, ck, W, h, t, o => by
    cases e with
    | Compare e1 ops es pos =>
      match ops, es, o with
      | [o1, o2], [e2, e3], o =>
        simp only [okE, Bool.and_eq_true, decide_eq_true_eq] at o
        obtain ⟨⟨⟨⟨⟨⟨q1, q2⟩, q3⟩, q4⟩, q5⟩, q6⟩, q7⟩ := o
        subst q1 q2
        refine (pt_chain (op_cmp h.units c1) (op_cmp h.units c2) (sndE a false e1 h q3) (sndE b false e2 h q4) (sndE c false e3 h q5) ?_).imp fun _ _ _ q => chain_E (tT_tB q)
        show behindInMarks c2.op e3 = false
        exact noBehind q7 _
      | [], _, o => exact Bool.noConfusion o
      | [_], _, o => exact Bool.noConfusion o
      | _ :: _ :: _ :: _, _, o => exact Bool.noConfusion o
      | [_, _], [], o => exact Bool.noConfusion o
      | [_, _], [_], o => exact Bool.noConfusion o
      | [_, _], _ :: _ :: _ :: _, o => exact Bool.noConfusion o
    | _ => exact Bool.noConfusion o
  | .ite _ _ _, e, X, ck, W, h, t, o => Bool.noConfusion t
  | .call0 n, e, X, ck, W, h, t, o => val_T (sndE (.call0 n) false e h o) (by cases e <;> first | rfl | exact Bool.noConfusion o)
  | .fcall ns w xs, e, X, ck, W, h, t, o => val_T (sndE (.fcall ns w xs) false e h o) (by cases e <;> first | rfl | exact Bool.noConfusion o)
  | .callL n xs, e, X, ck, W, h, t, o => val_T (sndE (.callL n xs) false e h o) (by cases e <;> first | rfl | exact Bool.noConfusion o)
  | .call n xs, e, X, ck, W, h, t, o => val_T (sndE (.call n xs) false e h o) (by cases e <;> first | rfl | exact Bool.noConfusion o)
  | .bif n xs, e, X, ck, W, h, t, o => val_T (sndE (.bif n xs) false e h o) (by cases e <;> first | rfl | exact Bool.noConfusion o)
  | .met n a xs, e, X, ck, W, h, t, o => val_T (sndE (.met n a xs) false e h o) (by cases e <;> first | rfl | exact Bool.noConfusion o)
  | .isi n xs, e, X, ck, W, h, t, o => val_T (sndE (.isi n xs) false e h o) (by cases e <;> first | rfl | exact Bool.noConfusion o)
  | .var i, e, X, ck, W, h, t, o => val_T (sndE (.var i) false e h o) (by cases e <;> first | rfl | exact Bool.noConfusion o)
  | .lvar i, e, X, ck, W, h, t, o => val_T (sndE (.lvar i) false e h o) (by cases e <;> first | rfl | exact Bool.noConfusion o)
  | .int i, e, X, ck, W, h, t, o => val_T (sndE (.int i) false e h o) (by cases e <;> first | rfl | exact Bool.noConfusion o)
  | .str i, e, X, ck, W, h, t, o => val_T (sndE (.str i) false e h o) (by cases e <;> first | rfl | exact Bool.noConfusion o)
  | .bl i, e, X, ck, W, h, t, o => val_T (sndE (.bl i) false e h o) (by cases e <;> first | rfl | exact Bool.noConfusion o)
  | .non, e, X, ck, W, h, t, o => val_T (sndE .non false e h o) (by cases e <;> first | rfl | exact Bool.noConfusion o)
  | .gstr i, e, X, ck, W, h, t, o => val_T (sndE (.gstr i) false e h o) (by cases e <;> first | rfl | exact Bool.noConfusion o)
  | .gint i, e, X, ck, W, h, t, o => val_T (sndE (.gint i) false e h o) (by cases e <;> first | rfl | exact Bool.noConfusion o)
  | .bin p a b, e, X, ck, W, h, t, o => val_T (sndE (.bin p a b) false e h o) (by cases e <;> first | rfl | exact Bool.noConfusion o)
  | .neg a, e, X, ck, W, h, t, o => val_T (sndE (.neg a) false e h o) (by
      cases e with
      | UnaryOp u _ _ => cases u <;> first | rfl | exact Bool.noConfusion o
      | _ => exact Bool.noConfusion o)
  | .tup a, e, X, ck, W, h, t, o => val_T (sndE (.tup a) false e h o) (by cases e <;> first | rfl | exact Bool.noConfusion o)
  | .lst a, e, X, ck, W, h, t, o => val_T (sndE (.lst a) false e h o) (by cases e <;> first | rfl | exact Bool.noConfusion o)
  | .dnew, e, X, ck, W, h, t, o => val_T (sndE .dnew false e h o) (by cases e <;> first | rfl | exact Bool.noConfusion o)
  | .dnewT, e, X, ck, W, h, t, o => val_T (sndE .dnewT false e h o) (by cases e <;> first | rfl | exact Bool.noConfusion o)
  | .idx a b, e, X, ck, W, h, t, o => val_T (sndE (.idx a b) false e h o) (by cases e <;> first | rfl | exact Bool.noConfusion o)
  | .dget a b, e, X, ck, W, h, t, o => val_T (sndE (.dget a b) false e h o) (by cases e <;> first | rfl | exact Bool.noConfusion o)
  | .get3 a b c, e, X, ck, W, h, t, o => val_T (sndE (.get3 a b c) false e h o) (by cases e <;> first | rfl | exact Bool.noConfusion o)
  | .sl0 a b, e, X, ck, W, h, t, o => val_T (sndE (.sl0 a b) false e h o) (by cases e <;> first | rfl | exact Bool.noConfusion o)
  | .sl1 a b, e, X, ck, W, h, t, o => val_T (sndE (.sl1 a b) false e h o) (by cases e <;> first | rfl | exact Bool.noConfusion o)
  | .sl2 a b c, e, X, ck, W, h, t, o => val_T (sndE (.sl2 a b c) false e h o) (by cases e <;> first | rfl | exact Bool.noConfusion o)
  | .xop op xs, e, X, ck, W, h, t, o => val_T (sndE (.xop op xs) false e h o) (by
      unfold okE at o
      cases q : xSyn ck op e with
      | none => rw [q] at o; exact Bool.noConfusion o
      | some es => exact xop_val op q)
  | .lc a b c d f, e, X, ck, W, h, t, o => val_T (sndE (.lc a b c d f) false e h o) (by cases e <;> first | rfl | exact Bool.noConfusion o)
  | .lcD a b c d f, e, X, ck, W, h, t, o => val_T (sndE (.lcD a b c d f) false e h o) (by cases e <;> first | rfl | exact Bool.noConfusion o)
theorem sndS {ec : Ex → Addr} {Γ : Tbl} {C : Cns} : ∀ (xs : Cds) (es : List Expr) {X : Cx} {ck : Ck} {W : WX}, XOk X ck ec W Γ C → oks ck xs es = true → PA X es (tAs X.KK ck.lin (wsh ec W) (evs Γ C xs))
  | .nil, [], X, ck, W, h, o => pa_nil.imp fun _ _ _ q => nil_A q
  | .nil, _ :: _, X, ck, W, h, o => Bool.noConfusion o
  | .cons a r, [], X, ck, W, h, o => Bool.noConfusion o
  | .cons a r, e :: es, X, ck, W, h, o => by
    simp only [oks, Bool.and_eq_true] at o
    exact (pa_cons (sndE a false e h o.1.1) (sndS r es h o.2) (star_plain o.1.2 _ _)).imp fun _ _ _ q => cons_A q
theorem sndVs {ec : Ex → Addr} {Γ : Tbl} {C : Cns} : ∀ (xs : Cds) (es : List Expr) {X : Cx} {ck : Ck} {W : WX}, XOk X ck ec W Γ C → okBs ck xs es = true → Evs X ck.lin (wsh ec W) Γ C xs es
  | .nil, [], X, ck, W, h, o => trivial
  | .nil, _ :: _, X, ck, W, h, o => Bool.noConfusion o
  | .cons a r, [], X, ck, W, h, o => Bool.noConfusion o
  | .cons a r, e :: es, X, ck, W, h, o => by
    simp only [okBs, Bool.and_eq_true] at o
    exact ⟨sndE a true e h o.1.1, o.1.2, sndVs r es h o.2⟩
theorem sndBs {ec : Ex → Addr} {Γ : Tbl} {C : Cns} : ∀ (xs : Cds) (es : List Expr) {X : Cx} {ck : Ck} {W : WX}, XOk X ck ec W Γ C → okBs ck xs es = true → PA X es (tAB X.KK ck.lin (wsh ec W) (evs Γ C xs))
  | .nil, [], X, ck, W, h, o => pa_nil.imp fun _ _ _ q => nil_AB q
  | .nil, _ :: _, X, ck, W, h, o => Bool.noConfusion o
  | .cons a r, [], X, ck, W, h, o => Bool.noConfusion o
  | .cons a r, e :: es, X, ck, W, h, o => by
    simp only [okBs, Bool.and_eq_true] at o
    exact (pa_cons (sndE a true e h o.1.1) (sndBs r es h o.2) (star_plain o.1.2 _ _)).imp fun _ _ _ q => cons_AB q
theorem sndI {ec : Ex → Addr} {Γ : Tbl} {C : Cns} : ∀ (it : It) (tg : Tg) (target e : Expr) {X : Cx} {ck : Ck} {W : WX}, XOk X ck ec W Γ C → okIt ck tg it e = true → (∀ a b, tg = .tup2 a b → ∃ es k p, target = .Tuple es k p) →
      PI X target e (tI X.KK ck.lin (wsh ec W) (prIt it) (evi Γ C it))
  | .of a, tg, target, e, X, ck, W, h, o, _ => by
    have o : okE ck false a e = true := o
    have p := sndE a false e h o
    exact (PI.or (pi_list p) (PI.or (pi_tup p) (pi_str p))).imp fun _ _ _ q => of_I q
  | .rng1 a, tg, target, e, X, ck, W, h, o, _ => by
    cases e with
    | Call f es ks pos =>
      cases f with
      | Name x p =>
        match es, ks, o with
        | [e1], [], o =>
          simp only [okIt, Bool.and_eq_true, decide_eq_true_eq] at o
          obtain ⟨⟨⟨o1, o2⟩, o3⟩, o4⟩ := o
          subst o1
          obtain ⟨g1, g2, g3⟩ := h.gl o2
          have pa : PA X [e1] (tAs X.KK ck.lin (wsh ec W) (evs Γ C (.cons a .nil))) := (pa_cons (sndE a false e1 h o3) (pa_nil.imp fun _ _ _ q => nil_A q) (star_plain o4 _ _)).imp fun _ _ _ q => cons_A q
          exact (pi_range1 g1 (h.free _ (by decide)) pa (star_plain o4 _ _)).imp fun _ _ _ q => rng1_I q
        | [], _, o => exact Bool.noConfusion o
        | [_], _ :: _, o => exact Bool.noConfusion o
        | _ :: _ :: _, _, o => exact Bool.noConfusion o
      | _ => exact Bool.noConfusion o
    | _ => exact Bool.noConfusion o
  | .rng2 a b, tg, target, e, X, ck, W, h, o, _ => by
    cases e with
    | Call f es ks pos =>
      cases f with
      | Name x p =>
        match es, ks, o with
        | [e1, e2], [], o =>
          simp only [okIt, Bool.and_eq_true, decide_eq_true_eq] at o
          obtain ⟨⟨⟨⟨⟨o1, o2⟩, o3⟩, o4⟩, o5⟩, o6⟩ := o
          subst o1
          obtain ⟨g1, g2, g3⟩ := h.gl o2
          have pb : PA X [e2] (tAs X.KK ck.lin (wsh ec W) (evs Γ C (.cons b .nil))) := (pa_cons (sndE b false e2 h o4) (pa_nil.imp fun _ _ _ q => nil_A q) (star_plain o6 _ _)).imp fun _ _ _ q => cons_A q
          have pa : PA X [e1, e2] (tAs X.KK ck.lin (wsh ec W) (evs Γ C (.cons a (.cons b .nil)))) := (pa_cons (sndE a false e1 h o3) pb (star_plain o5 _ _)).imp fun _ _ _ q => cons_A q
          exact (pi_range2 g1 (h.free _ (by decide)) pa (by rw [star_plain o5, star_plain o6]; rfl) (star_plain o6 _ _)).imp fun _ _ _ q => rng2_I q
        | [], _, o => exact Bool.noConfusion o
        | [_], _, o => exact Bool.noConfusion o
        | [_, _], _ :: _, o => exact Bool.noConfusion o
        | _ :: _ :: _ :: _, _, o => exact Bool.noConfusion o
      | _ => exact Bool.noConfusion o
    | _ => exact Bool.noConfusion o
  | .rng3 a b c, tg, target, e, X, ck, W, h, o, _ => by
    cases e with
    | Call f es ks pos =>
      cases f with
      | Name x p =>
        match es, ks, o with
        | [e1, e2, e3], [], o =>
          simp only [okIt, Bool.and_eq_true, decide_eq_true_eq] at o
          obtain ⟨⟨⟨⟨⟨⟨⟨o1, o2⟩, o3⟩, o4⟩, o5⟩, o6⟩, o7⟩, o8⟩ := o
          subst o1
          obtain ⟨g1, g2, g3⟩ := h.gl o2
          have pc : PA X [e3] (tAs X.KK ck.lin (wsh ec W) (evs Γ C (.cons c .nil))) := (pa_cons (sndE c false e3 h o5) (pa_nil.imp fun _ _ _ q => nil_A q) (star_plain o8 _ _)).imp fun _ _ _ q => cons_A q
          have pb : PA X [e2, e3] (tAs X.KK ck.lin (wsh ec W) (evs Γ C (.cons b (.cons c .nil)))) := (pa_cons (sndE b false e2 h o4) pc (star_plain o7 _ _)).imp fun _ _ _ q => cons_A q
          have pa : PA X [e1, e2, e3] (tAs X.KK ck.lin (wsh ec W) (evs Γ C (.cons a (.cons b (.cons c .nil))))) := (pa_cons (sndE a false e1 h o3) pb (star_plain o6 _ _)).imp fun _ _ _ q => cons_A q
          exact (pi_range3 g1 (h.free _ (by decide)) pa (star_plain o6 _ _) (star_any _ _ (by simp [o7, o8]))).imp fun _ _ _ q => rng3_I q
        | [], _, o => exact Bool.noConfusion o
        | [_], _, o => exact Bool.noConfusion o
        | [_, _], _, o => exact Bool.noConfusion o
        | [_, _, _], _ :: _, o => exact Bool.noConfusion o
        | _ :: _ :: _ :: _ :: _, _, o => exact Bool.noConfusion o
      | _ => exact Bool.noConfusion o
    | _ => exact Bool.noConfusion o
  | .zip a b, tg, target, e, X, ck, W, h, o, ht => by
    cases e with
    | Call f es ks pos =>
      cases f with
      | Name x p =>
        match es, ks, o with
        | [e1, e2], [], o =>
          have hh := okPr (it := .zip a b) rfl o
          simp only [okIt, Bool.and_eq_true, decide_eq_true_eq] at o
          obtain ⟨⟨⟨⟨⟨⟨o1, o2⟩, o3⟩, o4⟩, o5⟩, o6⟩, o7⟩ := o
          subst o1
          obtain ⟨ta, tb, e'⟩ := hh
          obtain ⟨es', k', p', rfl⟩ := ht ta tb e'
          obtain ⟨g1, g2, g3⟩ := h.gl o2
          have pb : PA X [e2] (tAs X.KK ck.lin (wsh ec W) (evs Γ C (.cons b .nil))) := (pa_cons (sndE b false e2 h o4) (pa_nil.imp fun _ _ _ q => nil_A q) (star_plain o6 _ _)).imp fun _ _ _ q => cons_A q
          have pa : PA X [e1, e2] (tAs X.KK ck.lin (wsh ec W) (evs Γ C (.cons a (.cons b .nil)))) := (pa_cons (sndE a false e1 h o3) pb (star_plain o5 _ _)).imp fun _ _ _ q => cons_A q
          have z2 := h.free "zip" (by decide)
          have z5 := star_plain o5 [e2] X.env
          have z6 : (backTo pos (starEach [e2] X.env)).any (·.1) = false := star_any _ _ (by simp [o6])
          exact (PI.or (pi_zipA g1 z2 pa z5 z6) (PI.or (pi_zipM g1 z2 pa z5 z6) (pi_zipS g1 z2 pa z5 z6))).imp fun _ _ _ q => zip_IB q
        | [], _, o => exact Bool.noConfusion o
        | [_], _, o => exact Bool.noConfusion o
        | [_, _], _ :: _, o => exact Bool.noConfusion o
        | _ :: _ :: _ :: _, _, o => exact Bool.noConfusion o
      | _ => exact Bool.noConfusion o
    | _ => exact Bool.noConfusion o
  | .enum a, tg, target, e, X, ck, W, h, o, ht => by
    cases e with
    | Call f es ks pos =>
      cases f with
      | Name x p =>
        match es, ks, o with
        | [e1], [], o =>
          have hh := okPr (it := .enum a) rfl o
          simp only [okIt, Bool.and_eq_true, decide_eq_true_eq] at o
          obtain ⟨⟨⟨⟨o1, o2⟩, o3⟩, o4⟩, o5⟩ := o
          subst o1
          obtain ⟨ta, tb, e'⟩ := hh
          obtain ⟨es', k', p', rfl⟩ := ht ta tb e'
          obtain ⟨g1, g2, g3⟩ := h.gl o2
          have pa : PA X [e1] (tAs X.KK ck.lin (wsh ec W) (evs Γ C (.cons a .nil))) := (pa_cons (sndE a false e1 h o3) (pa_nil.imp fun _ _ _ q => nil_A q) (star_plain o4 _ _)).imp fun _ _ _ q => cons_A q
          exact (pi_enumA g1 (h.free _ (by decide)) pa (star_plain o4 _ _)).imp fun _ _ _ q => enum_IA q
        | [], _, o => exact Bool.noConfusion o
        | [_], _ :: _, o => exact Bool.noConfusion o
        | _ :: _ :: _, _, o => exact Bool.noConfusion o
      | _ => exact Bool.noConfusion o
    | _ => exact Bool.noConfusion o
end
end PLq
namespace PLq
open PySem L2
open RZ (ItzT iZipA pi_zipA)
mutual
inductive Sd where
  | doc
  | set (i : Nat) (c : Cd) | setF (i : Nat) (c : Cd)
  | unp (tg : Tg) (c : Cd) | par (i j : Nat) (a b : Cd)
  | ret (c : Cd) | retL (i : Nat) | expr (c : Cd)
  | app (i : Nat) (c : Cd) | put (i : Nat) (k v : Cd)
  | ite (c : Cd) (a b : Sds) | whl (c : Cd) (b : Sds) | loop (tg : Tg) (it : It) (b : Sds)
  | rse (e : Ex)
  | setG (i : Nat) (c : Cd)
  | kill (is : List Nat) | frzB (i : Nat) (b : Sds) | fapp (j n : Nat) (xs : Cds) (z : T)
  | pop (i j : Nat) (c : Cd) | popx (j : Nat) (c : Cd) | ext (j : Nat) (c : Cd)
  | unp3 (i j k : Nat) (c : Cd)
  | tryX (ls : List Nat) (d : TrD) (b : Sds)
inductive Sds where
  | nil | cons (a : Sd) (r : Sds)
end
inductive Out where
  | nx (ρ : Env) | ret (d : D) | exc (e : Ex) | stuck
def Out.then (o : Out) (f : Env → Out) : Out := match o with
  | .nx ρ => f ρ
  | .ret d => .ret d
  | .exc e => .exc e
  | .stuck => .stuck
def resO {α : Type} (r : Res α) (f : α → Out) : Out := match r with
  | .ok d => f d
  | .exc e => .exc e
  | .stuck => .stuck
def tstO (r : Res D) (f : Bool → Out) : Out := match r with
  | .ok (.bl b) => f b
  | .ok _ => .stuck
  | .exc e => .exc e
  | .stuck => .stuck
def putO (o k v : D) : Option D := match o with
  | .lst xs => match k with
    | .int i => (L2.ixN xs.length i).map fun j => .lst (xs.set j v)
    | _ => none
  | .dk kvs => match keyD k with
    | some q => if kvs.length < szL then some (.dk (putD kvs q k v)) else none
    | none => none
  | .dkT kvs => match keyT k with
    | some q => if kvs.length < szL then some (.dkT (putT kvs q k v)) else none
    | none => none
  | _ => none
def popD (xs : List D) : D → Option (D × List D)
  | .int n => if inB n then (ixN xs.length n).bind fun k => (xs[k]?).map fun x => (x, xs.eraseIdx k) else none
  | _ => none
def refT : T := [114, 101, 102, 117, 115, 101, 100]
def caught (m : Option Ex) (e : Ex) : Bool := match m with
  | none => true
  | some x => decide (x = e)
def Hd.out : Hd → Ex → Out
  | .ref _ _ l, e => if e ∈ l then .ret (.tup [.str refT, .int (l.idxOf e : Nat)]) else .stuck
  | .non, _ => .ret .non
def catchO (d : TrD) : Out → Out
  | .exc e => if e ∈ d.es then (if caught d.m e = true then d.h.out e else .exc e) else .stuck
  | o => o
def emptyAt (ρ : Env) (i : Nat) : Bool := match ρ[i]? with
  | some (some _) => false
  | _ => true
def freed (i : Nat) : Out → Out
  | .nx ρ => match ρ[i]? with
    | some (some _) => .stuck
    | _ => .nx ρ
  | o => o
def forR (tg : Tg) (b : Env → Out) : List D → Env → Out
  | [], ρ => .nx ρ
  | d :: ds, ρ => match assignTg tg d ρ with
    | none => .stuck
    | some ρ1 => (b ρ1).then fun ρ2 => forR tg b ds ρ2
def whileN (c : Env → Res D) (b : Env → Out) : Nat → Env → Option Out
  | 0, _ => none
  | n + 1, ρ => match c ρ with
    | .ok (.bl true) => (match b ρ with
      | .nx ρ2 => whileN c b n ρ2
      | o => some o)
    | .ok (.bl false) => some (.nx ρ)
    | .ok _ => some .stuck
    | .exc e => some (.exc e)
    | .stuck => some .stuck
open Classical in
noncomputable def whileR (c : Env → Res D) (b : Env → Out) (ρ : Env) : Out := if h : ∃ n o, whileN c b n ρ = some o then h.choose_spec.choose else .stuck
theorem whileN_mono {c : Env → Res D} {b : Env → Out} : ∀ {n m : Nat} {ρ : Env} {o : Out}, n ≤ m → whileN c b n ρ = some o → whileN c b m ρ = some o
  | 0, _, _, _, _, h => by cases h
  | n + 1, 0, _, _, h, _ => by omega
  | n + 1, m + 1, ρ, o, h, e => by
    unfold whileN at e ⊢
    cases q : c ρ with
    | exc x => rw [q] at e; exact e
    | stuck => rw [q] at e; exact e
    | ok d =>
      rw [q] at e
      cases d with
      | bl k =>
        cases k with
        | false => exact e
        | true =>
          simp only at e ⊢
          cases z : b ρ with
          | nx ρ2 =>
            rw [z] at e
            exact whileN_mono (Nat.le_of_succ_le_succ h) e
          | ret d => rw [z] at e; exact e
          | exc d => rw [z] at e; exact e
          | stuck => rw [z] at e; exact e
      | _ => exact e
theorem whileR_of {c : Env → Res D} {b : Env → Out} {n : Nat} {ρ : Env} {o : Out} (h : whileN c b n ρ = some o) : whileR c b ρ = o := by
  unfold whileR
  have ex : ∃ n o, whileN c b n ρ = some o := ⟨n, o, h⟩
  rw [dif_pos ex]
  have q := ex.choose_spec.choose_spec
  have q1 := whileN_mono (Nat.le_max_left ex.choose n) q
  have q2 := whileN_mono (Nat.le_max_right ex.choose n) h
  rw [q1] at q2
  exact Option.some.inj q2
theorem whileR_get {c : Env → Res D} {b : Env → Out} {ρ : Env} : whileR c b ρ = .stuck ∨ ∃ n, whileN c b n ρ = some (whileR c b ρ) := by
  by_cases ex : ∃ n o, whileN c b n ρ = some o
  · obtain ⟨n, o, h⟩ := ex
    exact .inr ⟨n, by rw [whileR_of h]; exact h⟩
  · exact .inl (by unfold whileR; rw [dif_neg ex])
mutual
noncomputable def run (Γ : Tbl) (C : Cns) : Sd → Env → Out
  | .doc, ρ => .nx ρ
  | .set i c, ρ => resO (ev Γ C c ρ) fun d => .nx (ρ.set i (some d))
  | .setF i c, ρ => resO (ev Γ C c ρ) fun d => .nx (ρ.set i (some d))
  | .unp tg c, ρ => resO (ev Γ C c ρ) fun d => match assignTg tg d ρ with
    | some ρ1 => .nx ρ1
    | none => .stuck
  | .unp3 i j k c, ρ => resO (ev Γ C c ρ) fun d => match d with
    | .lst [x, y, z] => .nx (((ρ.set i (some x)).set j (some y)).set k (some z))
    | _ => .stuck
  | .par i j a b, ρ => resO (ev Γ C a ρ) fun x => resO (ev Γ C b ρ) fun y => .nx ((ρ.set i (some x)).set j (some y))
  | .ret c, ρ => resO (ev Γ C c ρ) fun d => .ret d
  | .retL i, ρ => match ρ[i]? with
    | some (some d) => .ret d
    | _ => .stuck
  | .expr c, ρ => resO (ev Γ C c ρ) fun _ => .nx ρ
  | .app i c, ρ => match ρ[i]? with
    | some (some (.lst xs)) => resO (ev Γ C c ρ) fun d => if xs.length < szL then .nx (ρ.set i (some (.lst (xs ++ [d])))) else .stuck
    | _ => .stuck
  | .put i k v, ρ => match ρ[i]? with
    | some (some o) => resO (ev Γ C v ρ) fun y => resO (ev Γ C k ρ) fun x => (match putO o x y with
      | some o2 => .nx (ρ.set i (some o2))
      | none => .stuck)
    | _ => .stuck
  | .ite c a b, ρ => tstO (ev Γ C c ρ) fun k => if k then runs Γ C a ρ else runs Γ C b ρ
  | .whl c b, ρ => whileR (ev Γ C c) (runs Γ C b) ρ
  | .loop tg it b, ρ => resO (evi Γ C it ρ) fun ds => forR tg (runs Γ C b) ds ρ
  | .rse e, _ => .exc e
  | .setG i c, ρ => resO (ev Γ C c ρ) fun d => match d with
    | .lst _ => .nx (ρ.set i (some d))
    | _ => .stuck
  | .kill is, ρ => .nx (wipeD ρ is)
  | .fapp j n xs _, ρ => resO (evs Γ C xs ρ) fun ds => resO (Γ.fn n ds) fun d => match d with
    | .tup (.lst ys :: _) => if j < ρ.length ∧ ys.length < szL then .nx (ρ.set j none) else .stuck
    | _ => .stuck
  | .frzB i b, ρ => freed i (runs Γ C b ρ)
  | .tryX ls d b, ρ => if ls.all (emptyAt ρ) then catchO d (runs Γ C b ρ) else .stuck
  | .pop i j c, ρ => match ρ[j]? with
    | some (some (.lst xs)) => resO (ev Γ C c ρ) fun d => match popD xs d with
      | some (x, ys) => .nx ((ρ.set j (some (.lst ys))).set i (some x))
      | none => .stuck
    | _ => .stuck
  | .popx j c, ρ => match ρ[j]? with
    | some (some (.lst xs)) => resO (ev Γ C c ρ) fun d => match popD xs d with
      | some (x, ys) => .nx (ρ.set j (some (.lst ys)))
      | none => .stuck
    | _ => .stuck
  | .ext j c, ρ => match ρ[j]? with
    | some (some (.lst xs)) => resO (ev Γ C c ρ) fun d => match d with
      | .lst ys => if xs.length + ys.length ≤ szL then .nx (ρ.set j (some (.lst (xs ++ ys)))) else .stuck
      | _ => .stuck
    | _ => .stuck
noncomputable def runs (Γ : Tbl) (C : Cns) : Sds → Env → Out
  | .nil, ρ => .nx ρ
  | .cons a r, ρ => (run Γ C a ρ).then fun ρ1 => runs Γ C r ρ1
end
structure OkS (K : KK) (H0 : Hp) (own0 : List Addr) (B : Hp) (lin : List Nat) (own : List Addr) (σ : L2.St) (H : Hp) (ρ : Env) : Prop where
  gd : Gd K own lin σ H ρ
  sub : ∀ a, a ∈ own0 → a ∈ own
  trk0 : ∀ a, a ∈ own0 → ∃ o, H0 a = some o
  same : Same H0 H
  new : ∀ i a d, i ∈ lin → ρ[i]? = some (some d) → σ[i]? = some (some (.ref a)) → H0 a = none
  safe : Same B (hid own H)
structure OkR (H0 : Hp) (own0 : List Addr) (B : Hp) (own : List Addr) (H : Hp) : Prop where
  sub : ∀ a, a ∈ own0 → a ∈ own
  same : Same H0 H
  safe : Same B (hid own H)
def postS (K : KK) (W : Wsh) (H0 : Hp) (own0 : List Addr) (B : Hp) (lin : List Nat) (DE : Ends) : Out → Prop
  | .nx ρ => ∀ own σ H, OkS K H0 own0 B lin own σ H ρ → DE.nx σ H
  | .ret d => ∀ own v H, OkR H0 own0 B own H → Rep K (hid own H) v d → DE.rt v H
  | .exc e => ∀ σ H, Same H0 H → W e σ H
  | .stuck => False
def tS (K : KK) (lin : List Nat) (W : Wsh) (f : Env → Out) : TS := fun DE σ H => ∃ H0 own0 B own ρ, OkS K H0 own0 B lin own σ H ρ ∧ postS K W H0 own0 B lin DE (f ρ)
section
variable {K : KK} {H0 : Hp} {own0 : List Addr} {B B2 : Hp} {lin : List Nat} {own : List Addr} {σ : L2.St} {H H' : Hp} {ρ : Env} {W : Wsh} {DE : Ends}
theorem OkS.mono (g : OkS K H0 own0 B lin own σ H ρ) (e : Same H H') : OkS K H0 own0 B lin own σ H' ρ :=
  ⟨g.gd.mono e, g.sub, g.trk0, g.same.trans e, g.new, g.safe.trans (hid_same e)⟩
theorem OkS.base (s : Same B B2) (g : OkS K H0 own0 B2 lin own σ H ρ) : OkS K H0 own0 B lin own σ H ρ := ⟨g.gd, g.sub, g.trk0, g.same, g.new, s.trans g.safe⟩
theorem OkS.rebase (g : OkS K H0 own0 B lin own σ H ρ) : OkS K H0 own0 (hid own H) lin own σ H ρ := ⟨g.gd, g.sub, g.trk0, g.same, g.new, Same.refl _⟩
theorem OkR.base (s : Same B B2) (g : OkR H0 own0 B2 own H) : OkR H0 own0 B own H := ⟨g.sub, g.same, s.trans g.safe⟩
theorem OkS.r (g : OkS K H0 own0 B lin own σ H ρ) : OkR H0 own0 B own H := ⟨g.sub, g.same, g.safe⟩
theorem postS.base (s : Same B B2) : ∀ {o : Out}, postS K W H0 own0 B lin DE o → postS K W H0 own0 B2 lin DE o
  | .nx ρ, p => fun own σ H g => p own σ H (g.base s)
  | .ret d, p => fun own v H g r => p own v H (g.base s) r
  | .exc e, p => p
  | .stuck, p => p
theorem postS_E {r : Res D} {f : D → Out} (g : OkS K H0 own0 B lin own σ H ρ) {Q : VK} (p : postS K W H0 own0 B lin DE (resO r f))
    (ok : ∀ d v H', r = .ok d → postS K W H0 own0 B lin DE (f d) → Same H H' → Rep K (hid own H') v d → Q v H') : postE K W own σ H Q r := by
  cases r with
  | ok d => exact fun v H' s q => ok d v H' rfl p s q
  | exc e => exact fun H' s => p σ H' (g.same.trans s)
  | stuck => exact p
theorem postS_T {r : Res D} {f : Bool → Out} (g : OkS K H0 own0 B lin own σ H ρ) {Q : Bool → Hp → Prop} (p : postS K W H0 own0 B lin DE (tstO r f))
    (ok : ∀ b H', r = .ok (.bl b) → postS K W H0 own0 B lin DE (f b) → Same H H' → Q b H') : postT K W own σ H Q r := by
  cases r with
  | ok d =>
    cases d with
    | bl b => exact fun H' s => ok b H' rfl p s
    | _ => exact p.elim
  | exc e => exact fun H' s => p σ H' (g.same.trans s)
  | stuck => exact p
theorem OkS.set {i : Nat} {v : V} {d : D} (g : OkS K H0 own0 B lin own σ H ρ) (r : Rep K (hid own H) v d) (hl : i ∉ lin) : OkS K H0 own0 B lin own (σ.set i (some v)) H (ρ.set i (some d)) where
  gd := g.gd.set r hl
  sub := g.sub
  trk0 := g.trk0
  same := g.same
  new := fun j a e hj hr h => by
    have q : i ≠ j := fun z => hl (z ▸ hj)
    rw [List.getElem?_set_ne q] at h hr
    exact g.new j a e hj hr h
  safe := g.safe
theorem OkS.drop {j : Nat} {u : Option V} (g : OkS K H0 own0 B lin own σ H ρ) (hl : j ∉ lin) : OkS K H0 own0 B lin own (σ.set j u) H (ρ.set j none) := by
  have ne : ∀ {i : Nat} {d : D}, (ρ.set j none)[i]? = some (some d) → j ≠ i := fun {i d} h z => by
    subst z
    rw [List.getElem?_set] at h
    split at h
    · split at h <;> cases h
    · rename_i q; exact q rfl
  exact {
    gd := {
      len := by simp [g.gd.len]
      val := fun i d h hi => by
        have n := ne h
        rw [List.getElem?_set_ne n] at h
        rw [List.getElem?_set_ne n]
        exact g.gd.val i d h hi
      lob := fun i d h hi => by
        have n := ne h
        rw [List.getElem?_set_ne n] at h
        rw [List.getElem?_set_ne n]
        exact g.gd.lob i d h hi
      sep := fun i k a d e hi hk h1 h2 h3 h4 => by
        have n1 := ne h1
        have n2 := ne h2
        rw [List.getElem?_set_ne n1] at h1 h3
        rw [List.getElem?_set_ne n2] at h2 h4
        exact g.gd.sep i k a d e hi hk h1 h2 h3 h4
      trk := g.gd.trk }
    sub := g.sub
    trk0 := g.trk0
    same := g.same
    new := fun i a d hi h1 h2 => by
      have n := ne h1
      rw [List.getElem?_set_ne n] at h1 h2
      exact g.new i a d hi h1 h2
    safe := g.safe }
theorem sets_ne {P : Nat → Prop} {j : Nat} (hj : ¬ P j) {σ σ' : L2.St} (s : Sets P σ σ') : σ'[j]? = σ[j]? := by
  induction s with
  | refl => rfl
  | step p _ ih =>
    rw [ih]
    exact List.getElem?_set_ne fun z => hj (by rw [← z]; exact p)
theorem tgFree_P {lin : List Nat} : ∀ (tg : Tg), tgFree lin tg → ∀ j, j ∈ lin → ¬ tgP tg j
  | .name i, f, j, hj, e => by
    have e : j = i := e
    subst e; exact f hj
  | .tup2 a b, f, j, hj, e => by
    rcases e with e | e
    · exact tgFree_P a f.1 j hj e
    · exact tgFree_P b f.2 j hj e
theorem assign_ne {lin : List Nat} : ∀ (tg : Tg) {d : D} {ρ ρ1 : Env}, tgFree lin tg → assignTg tg d ρ = some ρ1 → ∀ j, j ∈ lin → ρ1[j]? = ρ[j]?
  | .name i, d, ρ, ρ1, f, h, j, hj => by
    simp only [assignTg] at h
    cases h
    refine List.getElem?_set_ne fun z => ?_
    subst z; exact f hj
  | .tup2 a b, d, ρ, ρ1, f, h, j, hj => by
    cases d with
    | tup ds =>
      cases ds with
      | nil => cases h
      | cons d1 ds =>
        cases ds with
        | nil => cases h
        | cons d2 ds =>
          cases ds with
          | cons _ _ => cases h
          | nil =>
            simp only [assignTg] at h
            cases q : assignTg a d1 ρ with
            | none => rw [q] at h; cases h
            | some ρ2 =>
              rw [q] at h
              rw [assign_ne b f.2 h j hj, assign_ne a f.1 q j hj]
    | _ => cases h
theorem OkS.tg {tg : Tg} {σ1 : L2.St} {ρ1 : Env} (g : OkS K H0 own0 B lin own σ H ρ) (f : tgFree lin tg) (g1 : Gd K own lin σ1 H ρ1) (s : Sets (tgP tg) σ σ1) (hr : ∀ j, j ∈ lin → ρ1[j]? = ρ[j]?) : OkS K H0 own0 B lin own σ1 H ρ1 where
  gd := g1
  sub := g.sub
  trk0 := g.trk0
  same := g.same
  new := fun j a e hj h1 h => by
    rw [sets_ne (tgFree_P tg f j hj) s] at h
    rw [hr j hj] at h1
    exact g.new j a e hj h1 h
  safe := g.safe
theorem OkS.setF {i : Nat} {a : Addr} {o : HO} {d : D} {H' : Hp} (g : OkS K H0 own0 B lin own σ H ρ) (hn : H a = none) (e : H' = upd H a o) (r : RepO K (hid own H) a o d) (hl : i ∈ lin) (hi : i < σ.length) :
    OkS K H0 own0 B lin (a :: own) (σ.set i (some (.ref a))) H' (ρ.set i (some d)) := by
  subst e
  have sm : Same (hid own H) (hid (a :: own) (upd H a o)) := hid_more hn (same_upd hn)
  refine ⟨⟨by rw [List.length_set, List.length_set]; exact g.gd.len, fun j e h hj => ?_, fun j e h hj => ?_, fun j k b e1 e2 hj hk h1 h2 h3 h4 => ?_, fun b hb => ?_⟩, fun b hb => List.mem_cons_of_mem _ (g.sub b hb), g.trk0, g.same.trans (same_upd hn), fun j b e hj hr h => ?_, g.safe.trans sm⟩
  · have q : i ≠ j := fun z => hj (z ▸ hl)
    rw [List.getElem?_set_ne q] at h ⊢
    obtain ⟨v, h1, h2⟩ := g.gd.val j e h hj
    exact ⟨v, h1, h2.mono sm⟩
  · by_cases q : i = j
    · subst q
      rw [List.getElem?_set_self (by rw [g.gd.len]; exact hi)] at h
      cases h
      refine ⟨a, o, List.getElem?_set_self hi, List.mem_cons_self, upd_same, ?_⟩
      exact r.mono sm
    · rw [List.getElem?_set_ne q] at h ⊢
      obtain ⟨b, ob, h1, h2, h3, h4⟩ := g.gd.lob j e h hj
      exact ⟨b, ob, h1, List.mem_cons_of_mem _ h2, same_upd hn _ _ h3, h4.mono sm⟩
  · have ne : ∀ {m e}, m ∈ lin → ρ[m]? = some (some e) → σ[m]? ≠ some (some (.ref a)) := fun {m e} hm hr hs => by
      obtain ⟨b, ob, h1, h2, h3, h4⟩ := g.gd.lob m e hr hm
      rw [hs] at h1; cases h1
      rw [hn] at h3; cases h3
    by_cases q1 : i = j
    · subst q1
      by_cases q2 : i = k
      · exact q2
      · rw [List.getElem?_set_self hi] at h3
        cases h3
        rw [List.getElem?_set_ne q2] at h2 h4
        exact absurd h4 (ne hk h2)
    · rw [List.getElem?_set_ne q1] at h1 h3
      by_cases q2 : i = k
      · subst q2
        rw [List.getElem?_set_self hi] at h4
        cases h4
        exact absurd h3 (ne hj h1)
      · rw [List.getElem?_set_ne q2] at h2 h4
        exact g.gd.sep j k b e1 e2 hj hk h1 h2 h3 h4
  · rcases List.mem_cons.mp hb with rfl | hb
    · exact ⟨o, upd_same⟩
    · obtain ⟨o', q⟩ := g.gd.trk b hb
      exact ⟨o', same_upd hn _ _ q⟩
  · by_cases q : i = j
    · subst q
      rw [List.getElem?_set_self hi] at h
      cases h
      exact Same.free g.same hn
    · rw [List.getElem?_set_ne q] at h hr
      exact g.new j b e hj hr h
theorem wipe_get {ρ : Env} {i : Nat} {d : D} : ∀ {vs : List Nat}, (wipeD ρ vs)[i]? = some (some d) → ρ[i]? = some (some d)
  | [], h => h
  | v :: vs, h => by
    have h : ((wipeD ρ vs).set v none)[i]? = some (some d) := h
    by_cases q : v = i
    · subst q
      by_cases z : v < (wipeD ρ vs).length
      · rw [List.getElem?_set_self z] at h; cases h
      · rw [List.getElem?_eq_none (by rw [List.length_set]; omega)] at h; cases h
    · rw [List.getElem?_set_ne q] at h
      exact wipe_get h
theorem wipe_len (ρ : Env) : ∀ vs : List Nat, (wipeD ρ vs).length = ρ.length
  | [] => rfl
  | v :: vs => by
    show ((wipeD ρ vs).set v none).length = _
    rw [List.length_set, wipe_len ρ vs]
theorem OkS.kill (g : OkS K H0 own0 B lin own σ H ρ) (vs : List Nat) : OkS K H0 own0 B lin own σ H (wipeD ρ vs) where
  gd := ⟨by rw [wipe_len]; exact g.gd.len, fun i d h hl => g.gd.val i d (wipe_get h) hl, fun i d h hl => g.gd.lob i d (wipe_get h) hl, fun i j a d e hi hj h1 h2 h3 h4 => g.gd.sep i j a d e hi hj (wipe_get h1) (wipe_get h2) h3 h4, g.gd.trk⟩
  sub := g.sub
  trk0 := g.trk0
  same := g.same
  new := fun i a d hi hr h => g.new i a d hi (wipe_get hr) h
  safe := g.safe
def less (lin : List Nat) (i : Nat) : List Nat := lin.filter fun j => j != i
theorem mem_less {lin : List Nat} {i j : Nat} : j ∈ less lin i ↔ j ∈ lin ∧ j ≠ i := by
  unfold less
  rw [List.mem_filter]
  simp
theorem OkS.frz (g : OkS K H0 own0 B lin own σ H ρ) (i : Nat) : ∃ own', OkS K H0 own0 B (less lin i) own' σ H ρ := by
  by_cases hl : i ∈ lin
  · cases q : ρ[i]? with
    | none =>
      refine ⟨own, ⟨g.gd.len, fun j d h hj => ?_, fun j d h hj => g.gd.lob j d h (mem_less.mp hj).1, fun j k a d e h1 h2 => g.gd.sep j k a d e (mem_less.mp h1).1 (mem_less.mp h2).1, g.gd.trk⟩, g.sub, g.trk0, g.same, fun j a d hj => g.new j a d (mem_less.mp hj).1, g.safe⟩
      refine g.gd.val j d h fun z => hj (mem_less.mpr ⟨z, fun e => ?_⟩)
      subst e; rw [q] at h; cases h
    | some z =>
      cases z with
      | none =>
        refine ⟨own, ⟨g.gd.len, fun j d h hj => ?_, fun j d h hj => g.gd.lob j d h (mem_less.mp hj).1, fun j k a d e h1 h2 => g.gd.sep j k a d e (mem_less.mp h1).1 (mem_less.mp h2).1, g.gd.trk⟩, g.sub, g.trk0, g.same, fun j a d hj => g.new j a d (mem_less.mp hj).1, g.safe⟩
        refine g.gd.val j d h fun z => hj (mem_less.mpr ⟨z, fun e => ?_⟩)
        subst e; rw [q] at h; cases h
      | some d0 =>
        obtain ⟨a, o, h1, h2, h3, h4⟩ := g.gd.lob i d0 q hl
        have sub : ∀ b, b ∈ own.filter (fun b => b ≠ a) → b ∈ own := fun b hb => (List.mem_filter.mp hb).1
        have na : a ∉ own.filter (fun b => b ≠ a) := fun z => by simpa using (List.mem_filter.mp z).2
        refine ⟨own.filter fun b => b ≠ a, ⟨g.gd.len, fun j d h hj => ?_, fun j d h hj => ?_, fun j k a d e h1 h2 => g.gd.sep j k a d e (mem_less.mp h1).1 (mem_less.mp h2).1, fun b hb => g.gd.trk b (sub b hb)⟩, fun b hb => ?_, g.trk0, g.same, fun j a d hj => g.new j a d (mem_less.mp hj).1, g.safe.trans (hid_sub sub)⟩
        · by_cases e : j = i
          · subst e
            rw [q] at h; cases h
            exact ⟨_, h1, (h4.mono (hid_sub sub)).rep (hid_of na h3)⟩
          · obtain ⟨v, w1, w2⟩ := g.gd.val j d h fun z => hj (mem_less.mpr ⟨z, e⟩)
            exact ⟨v, w1, w2.mono (hid_sub sub)⟩
        · obtain ⟨hj1, hj2⟩ := mem_less.mp hj
          obtain ⟨b, ob, w1, w2, w3, w4⟩ := g.gd.lob j d h hj1
          refine ⟨b, ob, w1, List.mem_filter.mpr ⟨w2, ?_⟩, w3, w4.mono (hid_sub sub)⟩
          have ne : b ≠ a := fun z => hj2 (g.gd.sep j i a d d0 hj1 hl h q (z ▸ w1) h1)
          simp [ne]
        · refine List.mem_filter.mpr ⟨g.sub b hb, ?_⟩
          have ne : b ≠ a := fun z => by
            subst z
            obtain ⟨ob, e⟩ := g.trk0 b hb
            rw [g.new i b d0 hl q h1] at e; cases e
          simp [ne]
  · refine ⟨own, ⟨g.gd.len, fun j d h hj => g.gd.val j d h fun z => hj (mem_less.mpr ⟨z, fun e => hl (e ▸ z)⟩), fun j d h hj => g.gd.lob j d h (mem_less.mp hj).1, fun j k a d e h1 h2 => g.gd.sep j k a d e (mem_less.mp h1).1 (mem_less.mp h2).1, g.gd.trk⟩, g.sub, g.trk0, g.same, fun j a d hj => g.new j a d (mem_less.mp hj).1, g.safe⟩
theorem OkS.thaw {i : Nat} (g : OkS K H0 own0 B (less lin i) own σ H ρ) (h : ∀ d, ρ[i]? ≠ some (some d)) : OkS K H0 own0 B lin own σ H ρ := by
  have ne : ∀ {j d}, ρ[j]? = some (some d) → j ≠ i := fun {j d} q e => h d (e ▸ q)
  exact ⟨⟨g.gd.len, fun j d q hj => g.gd.val j d q fun z => hj (mem_less.mp z).1, fun j d q hj => g.gd.lob j d q (mem_less.mpr ⟨hj, ne q⟩), fun j k a d e h1 h2 q1 q2 => g.gd.sep j k a d e (mem_less.mpr ⟨h1, ne q1⟩) (mem_less.mpr ⟨h2, ne q2⟩) q1 q2, g.gd.trk⟩, g.sub, g.trk0, g.same, fun j a d hj q => g.new j a d (mem_less.mpr ⟨hj, ne q⟩) q, g.safe⟩
end
end PLq
namespace PLq
open PySem L2
def Ex.nm : Ex → Str
  | .source => "NoSource" | .book => "NoBook" | .piece => "NoPiece" | .letters => "NoLetters" | .word => "NoWord" | .size => "NoSize" | .text => "NoText" | .step => "NoStep"
theorem call_isP {X : Cx} {p : Addr × Obj} {C : Addr} (c : ExcC X.K C) (hp : p ∈ X.pn) (hz : Zc (.ref C) none p.2) (hf : ∃ vs, p.2.data = .fields vs) : CallR X (.builtin "isinstance") (rIsE X.K C p.1) := by
  intro pins s σ H xs us Q I r h
  obtain ⟨c', cv, b, rfl, hcv, e, q⟩ := h
  cases r with
  | cons rx rr =>
    cases rr with
    | cons rt rr =>
      cases rr
      cases rx
      have ec := hcv _ rt
      subst ec
      obtain ⟨hget, _⟩ := I.pin p (List.mem_append.mpr (.inl hp))
      obtain ⟨vs, hv⟩ := hf
      have J : PySem.W.InstAt s.heap p.1 p.2 C none := by
        obtain ⟨pa, oc, od, oda, osl⟩ := p
        obtain ⟨h1, h2⟩ := hz
        dsimp only at h1 h2 hv
        subst h1 h2 hv
        exact ⟨hget, rfl, rfl, trivial⟩
      exact PySem.W.kia_one (PySem.W.handS_kitx_exc c.hg c.hk c.hs c.hd c.ha c.hn c.ht c.hm) I.kIn J e (fun z => nomatch z) fun tk => ⟨.bl b, H, I.kept (t' := tk) fun _ _ z => z, rfl, q⟩
structure FnE (P : Program) (w : World) (K : PySem.W.Frag) (mg : Str → Option Value) (base : Heap) (k : Nat) (f : Addr) (fd : FuncData) (ps : List Str) (sp : Addr × Obj → VK → Hp → Prop) : Prop where
  one : ps.length = 1
  run : ∀ (A : Around) (outer : List PySem.Env) (s : Shared) (H : Hp) (args : Args) (p : Addr × Obj) (Q : VK), L2H.RoomH k A → L2H.PinOk outer H s p → Env0 P w K mg base A outer s H → BindsTo s fd args (ps.zip [.ref p.1]) → sp p Q H →
    codeAny (model P w) A (.call (.ref f) args) (CR (L2.CX P w) outer P w H s Q (fun _ _ _ => False)) s
theorem fnE_of {P : Program} {w : World} {K : PySem.W.Frag} {mg : Str → Option Value} {base : Heap} {k : Nat} {f : Addr} {fd : FuncData} {name qual : Str} {params : Arguments} {body : List Stmt} {scope : Scope} {N ps : List Str} {sp : Addr × Obj → VK → Hp → Prop}
    (F : FunD K name qual params body scope [] [] f fd) (S : FnScope N ps scope) (one : ps.length = 1)
    (hbody : ∀ (cdv : Value) (A : Around) (outer : List PySem.Env) (s : Shared) (H : Hp) (Q : VK) (p : Addr × Obj), L2H.RoomH k (A.deeper (PyProof.Rows.envOfC qual scope s.heap.objs.size f cdv)) → sp p Q H →
      ∃ t, PSs (L2H.cxH (L2.CX P w) P w K mg base N qual scope f cdv A outer s H (fun _ _ _ => False) p) body t ∧ t { nx := fun _ H' => Q .non H', rt := Q } (L2.start N [.ref p.1]) H) :
    FnE P w K mg base (k + 1) f fd ps sp := by
  obtain ⟨oc, od, dV, kV, doc, pm, an, cdv, ct, osl, rfl, lk, hcd, _, _⟩ := F.ex
  refine ⟨one, fun A outer s H args p Q hr hpin e0 hb hsp => ?_⟩
  have r : Vals [V.ref p.1] [Value.ref p.1] := .cons rfl .nil
  have hl : [V.ref p.1].length = ps.length := one.symm
  have KX : K.In s.heap := e0.mod.kin.keeps fun b o e => (e0.bs b o e).1
  have lim : s.heap.NoLimit := e0.mod.nolimit.keeps fun b o e => (e0.bs b o e).1
  have hkind : ∀ y ∈ ps.zip [Value.ref p.1], scope.names.lookup y.1 = some .local ∨ (scope.names.lookup y.1 = some .cell ∧ ((cellsFrom (s.heap.objs.size + 1) scope.names []).lookup y.1).isSome = true) := fun ⟨n, v⟩ hy => by
    rcases S.par n (List.of_mem_zip hy).1 with q | q
    · exact .inl q
    · exact .inr ⟨q, PySem.W.cellsFrom_some _ _ _ (.inl q)⟩
  refine codeAny_call_function hr.depth (KX _ _ lk) rfl S.co S.gen rfl (PySem.W.codeRec_of KX hcd) (hb _ _ _ _ ?_)
  refine wpAny_newFunctionEnv_cells S.kind hkind fun env he s1 x => ?_
  subst he
  refine ⟨lim.keeps x.toInCall.keep, codeAny_func ?_⟩
  obtain ⟨t, ht, hq⟩ := hbody cdv A outer s H Q p (hr.deeper _) hsp
  have I : Inv (L2H.cxH (L2.CX P w) P w K mg base N qual scope f cdv A outer s H (fun _ _ _ => False) p) [] (L2.start N [.ref p.1]) H s1 := L2H.inv_startH S hpin e0 hl r x
  refine wpAny_mono (ht.run [] s1 (L2.start N [.ref p.1]) H _ I hq) (fun fl s' hs => ?_) fun e s' hs => hs
  have fin : ∀ {σ' : L2.St} {H' : Hp} {v : V} {u : Value}, Inv (L2H.cxH (L2.CX P w) P w K mg base N qual scope f cdv A outer s H (fun _ _ _ => False) p) [] σ' H' s' → RelV v u → Q v H' → CE outer P w H s Q u s' :=
    fun {σ' H' v u} J rv q => ⟨v, H', J.os, J.bare, J.base, J.hok, rv, q⟩
  cases fl with
  | ret u =>
    obtain ⟨v, σ', H', J, rv, q⟩ := hs
    exact fin J rv q
  | next =>
    obtain ⟨σ', H', J, q⟩ := hs
    exact fin (v := V.non) (u := Value.none) J rfl q
  | brk =>
    obtain ⟨_, _, _, q⟩ := hs
    exact False.elim q
  | cont =>
    obtain ⟨_, _, _, q⟩ := hs
    exact False.elim q
structure ExF (K : PySem.W.Frag) (mg : Str → Option Value) (ec : Ex → Addr) (l : List Ex) : Prop where
  cc : ∀ e ∈ l, ExcC K (ec e)
  ii : ∀ e ∈ l, ∀ e' ∈ l, PySem.W.kitOne K (.ref (ec e)) (.ref (ec e')) = some (decide (e = e'))
  ve : ∀ e ∈ l, PySem.W.kitOne K (.ref (ec e)) (.type "ValueError") = some true
  gl : ∀ e ∈ l, mg e.nm = some (.ref (ec e))
  bl : mg ("isinstance" : Str) = none ∧ mg ("ValueError" : Str) = none
def isArgs : List Ex → List Expr → Bool
  | [], [] => true
  | e :: l, .Call (.Name f _) [.Name z _, .Name x _] [] _ :: r => decide (f = "isinstance") && decide (z = "_law_e") && decide (x = e.nm) && isArgs l r
  | _, _ => false
def glS (sc : Scope) (x : Str) : Bool := decide (sc.names.lookup x = some .globalImplicit)
def refTail : List Stmt → Bool
  | [.If (.BoolOp .Or [.Compare (.Call (.Attribute (.Name y2 _) m1 p1) [.Constant (.bool b1) _ _] [] p2) [.NotEq] [.Constant (.int i1) _ _] _, .UnaryOp .Not (.Call (.Name f _) [.Name z _, .Name v _] [] _) _] _) _ [] _,
     .Return (some (.Tuple [.Constant (.str r) _ _, .Call (.Attribute (.Name y3 _) m2 p3) [.Constant (.bool b2) _ _] [] p4] _ _)) _] =>
    decide (y2 = "_law_flags") && decide (m1 = "count") && attrLine p1 p2 && b1 && decide (i1 = 1) && decide (f = "isinstance") && decide (z = "_law_e") && decide (v = "ValueError") &&
      (decide (r = mkS refT) && decide (y3 = "_law_flags") && decide (m2 = "index") && attrLine p3 p4 && b2)
  | _ => false
def refBody (l1 l2 : List Ex) : List Stmt → Bool
  | .Assign [.Name y1 _] (.List es1 _) _ :: .Assign [.Name y2 _] (.BinOp (.Name y3 _) .Add (.List es2 _) _) _ :: r =>
    decide (y1 = "_law_flags") && decide (y2 = "_law_flags") && decide (y3 = "_law_flags") && isArgs l1 es1 && isArgs l2 es2 && refTail r
  | .Assign [.Name y1 _] (.List es1 _) _ :: r => decide (l2 = []) && decide (y1 = "_law_flags") && isArgs l1 es1 && refTail r
  | _ => false
abbrev RefN : List Str := ["_law_e", "_law_flags"]
section
variable {X : Cx} {p : Addr × Obj} {ec : Ex → Addr} {l : List Ex} {e : Ex}
structure RefX (X : Cx) (p : Addr × Obj) (ec : Ex → Addr) (l : List Ex) (e : Ex) : Prop where
  N : X.N = RefN
  sc : FnScope RefN ["_law_e"] X.env.scope
  fn : ∀ x, X.fn x = true
  un : X.A.units + 65 < cLine
  F : ExF X.K X.mg ec l
  he : e ∈ l
  hp : p ∈ X.pn
  hz : Zc (.ref (ec e)) none p.2
  hf : ∃ vs, p.2.data = .fields vs
  g1 : Gl X "isinstance"
  g2 : Gl X "ValueError"
  g3 : ∀ e ∈ l, Gl X e.nm
  l1 : X.env.scope.names.lookup ("_law_e" : Str) = some .local
  l2 : X.env.scope.names.lookup ("_law_flags" : Str) = some .local
def tIs1 (p : Addr × Obj) (b : Bool) : TE := fun σ H Q => σ[0]? = some (some (.ref p.1)) ∧ Q (.bl b) H
theorem nm_dbg (e : Ex) : (e.nm == ("__debug__" : Str)) = false := by cases e <;> decide
theorem swFalse' {e : Expr} (hn : (match e with | .List _ _ => true | .BinOp _ _ _ _ => true | _ => false) = true) (t : Option Expr) (l : Nat) (env : PySem.Env) : swapsWith e t l env = pure false := by
  cases e <;> first | rfl | cases hn
theorem is_pe (R : RefX X p ec l e) {e' : Ex} (h : e' ∈ l) {a b c pos : Pos} : PE X (.Call (.Name "isinstance" a) [.Name "_law_e" b, .Name e'.nm c] [] pos) (tIs1 p (decide (e = e'))) := by
  have pc := call_isP (R.F.cc e R.he) R.hp R.hz R.hf
  have pa : PA X [.Name "_law_e" b, .Name e'.nm c] (tCons (tVar 0) (tCons (tC (.ref (ec e'))) tNil)) :=
    pa_cons (pe_var (by rw [R.N]; rfl) (.inl R.l1)) (pa_cons (pe_glob (v := .ref (ec e')) (R.g3 e' h) (R.F.gl e' h) rfl (nm_dbg e')) pa_nil rfl) rfl
  refine (pe_callB pc R.g1 R.F.bl.1 (by decide +kernel) pa (by decide) (by decide) rfl rfl).imp fun σ H Q q => ?_
  exact ⟨_, q.1, .ref (ec e'), .ref (ec e'), _, rfl, fun u r => r, R.F.ii e R.he e' h, q.2⟩
theorem isV_pe (R : RefX X p ec l e) {a b c pos : Pos} : PE X (.Call (.Name "isinstance" a) [.Name "_law_e" b, .Name "ValueError" c] [] pos) (tIs1 p true) := by
  have pc := call_isP (R.F.cc e R.he) R.hp R.hz R.hf
  have pa : PA X [.Name "_law_e" b, .Name "ValueError" c] (tCons (tVar 0) (tCons (tC (.ty "ValueError")) tNil)) :=
    pa_cons (pe_var (by rw [R.N]; rfl) (.inl R.l1)) (pa_cons (pe_bltn (v := .ty "ValueError") (u := .type "ValueError") R.g2 R.F.bl.2 (by decide +kernel) rfl) pa_nil rfl) rfl
  refine (pe_callB pc R.g1 R.F.bl.1 (by decide +kernel) pa (by decide) (by decide) rfl rfl).imp fun σ H Q q => ?_
  exact ⟨_, q.1, .ty "ValueError", .type "ValueError", _, rfl, fun u r => r, R.F.ve e R.he, q.2⟩
def tIs (p : Addr × Obj) (e : Ex) (l : List Ex) : TA := fun σ H Q => σ[0]? = some (some (.ref p.1)) ∧ Q (l.map fun e' => V.bl (decide (e = e'))) H
theorem is_pa (R : RefX X p ec l e) : ∀ (l1 : List Ex) (es : List Expr), (∀ x ∈ l1, x ∈ l) → isArgs l1 es = true → PA X es (tIs p e l1)
  | [], [], _, _ => pa_nil.imp fun σ H Q q => q.2
  | [], _ :: _, _, o => by cases o
  | _ :: _, [], _, o => by cases o
  | e1 :: l1, x :: es, hl, o => by
    unfold isArgs at o
    split at o
    · contradiction
    · rename_i z1 z2
      rename_i f p1 z p2 x1 p3 pos r
      injection z1 with z1 z3
      injection z2 with z2 z4
      subst z1 z3 z2 z4
      simp only [Bool.and_eq_true, decide_eq_true_eq] at o
      obtain ⟨⟨⟨rfl, rfl⟩, rfl⟩, o⟩ := o
      exact (pa_cons (is_pe R (hl _ List.mem_cons_self)) (is_pa R l1 es (fun x hx => hl x (List.mem_cons_of_mem _ hx)) o) rfl).imp fun σ H Q q => ⟨q.1, q.1, q.2⟩
    · contradiction
def flD (e : Ex) (l : List Ex) : List D := l.map fun e' => D.bl (decide (e = e'))
def flOk (l : List Ex) (e : Ex) (i : Nat) : Bool := (match metD .count (.lst (flD e l)) [.bl true], metD .lindex (.lst (flD e l)) [.bl true] with
  | some (.int c), some (.int j) => decide (c = 1) && decide (j = (i : Int))
  | _, _ => false) && decide (l.length ≤ 30)
theorem flOk_get {l : List Ex} {e : Ex} {i : Nat} (h : flOk l e i = true) : metD .count (.lst (flD e l)) [.bl true] = some (.int 1) ∧ metD .lindex (.lst (flD e l)) [.bl true] = some (.int (i : Int)) ∧ l.length ≤ 30 := by
  unfold flOk at h
  simp only [Bool.and_eq_true, decide_eq_true_eq] at h
  obtain ⟨h, hl⟩ := h
  split at h
  · rename_i c j h1 h2
    simp only [Bool.and_eq_true, decide_eq_true_eq] at h
    obtain ⟨rfl, rfl⟩ := h
    exact ⟨h1, h2, hl⟩
  · cases h
theorem fl_reps {K : KK} {H : Hp} (e : Ex) : ∀ l : List Ex, Reps K H (l.map fun e' => V.bl (decide (e = e'))) (flD e l)
  | [] => .nil
  | _ :: l => .cons (.bl _) (fl_reps e l)
abbrev neverS (X : Cx) (ss : List Stmt) : PSs X ss tNever := ⟨fun _ _ _ _ _ _ h => h.elim⟩
theorem bl1_reps {K : KK} {H : Hp} : RepBs K [] H [.bl true] [.bl true] := .cons (.safe (.bl _)) .nil
theorem flag_B {K : KK} {H : Hp} {q : Addr} {e : Ex} {l : List Ex} (h : H q = some (.lst (l.map fun e' => V.bl (decide (e = e'))))) : RepB K [] H (.ref q) (.lst (flD e l)) := .safe (.lst (by rw [hid_nil]; exact h) (by rw [hid_nil]; exact fl_reps e l))
theorem flag_pe (R : RefX X p ec l e) {l' : List Ex} (m : Met) {i : Int} (hz : metD m (.lst (flD e l')) [.bl true] = some (.int i)) (hr : recvP m (.lst (flD e l'))) {a b c pos : Pos} {j : Nat} (at_ : attrLine b pos = true) :
    PE X (.Call (.Attribute (.Name "_law_flags" a) m.nm b) [.Constant (.bool true) j c] [] pos) (fun σ H Q => (∃ q, σ[1]? = some (some (.ref q)) ∧ H q = some (.lst (l'.map fun e' => V.bl (decide (e = e'))))) ∧ ∀ v H', Same H H' → v = V.int i → Q v H') := by
  have po : PE X (.Name "_law_flags" a) (tVar 1) := pe_var (by rw [R.N]; rfl) (.inl R.l2)
  have pa : PA X [.Constant (.bool true) j c] (tCons (tC (.bl true)) tNil) := pa_cons pe_bl pa_nil rfl
  refine (pe_bmW m.plain m.slot m.ty (met_call m) po pa rfl rfl at_ rfl rfl).imp fun σ H Q q => ?_
  obtain ⟨⟨q, h1, h2⟩, h3⟩ := q
  refine ⟨_, h1, s_met_ty m (flag_B h2) hr, s_met R.un m (own := []) (fun a h => by cases h) (flag_B h2) bl1_reps hz fun v H' s r => h3 v H' s ?_⟩
  cases r; rfl
theorem refTail_ok (R : RefX X p ec l e) {i : Nat} (hi : flOk l e i = true) {ss : List Stmt} (o : refTail ss = true) : ∃ t, PSs X ss t ∧ ∀ (D : Ends) σ H, σ[0]? = some (some (.ref p.1)) → (∃ q, σ[1]? = some (some (.ref q)) ∧ H q = some (.lst (l.map fun e' => V.bl (decide (e = e'))))) →
    (∀ H' q o, Same H H' → H q = none → H' q = some (.frz o (.tup [.str (mkS refT), .int i])) → o.dict = none → D.rt (.ref q) H') → t D σ H := by
  obtain ⟨c1, c2, c3⟩ := flOk_get hi
  unfold refTail at o
  split at o
  · rename_i y2 n2 m1 p1 b1 j1 q1 p2 i1 j2 q2 q3 f n3 z n4 v n5 q4 q5 q6 thn_ q7 r j3 q8 y3 n6 m2 p3 b2 j4 q9 p4 k5 q10 q11
    simp only [Bool.and_eq_true, decide_eq_true_eq] at o
    obtain ⟨⟨⟨⟨⟨⟨⟨⟨rfl, rfl⟩, a1⟩, rfl⟩, rfl⟩, rfl⟩, rfl⟩, rfl⟩, ⟨⟨⟨rfl, rfl⟩, rfl⟩, a2⟩, rfl⟩ := o
    have e1 := flag_pe (a := n2) (c := q1) (j := j1) R .count c1 ⟨_, rfl⟩ a1
    have e2 := flag_pe (a := n6) (c := q9) (j := j4) R .lindex c2 ⟨_, rfl⟩ a2
    have tcmp := pt_cmpR (pos := q3) (op_cmp R.un .ne) e1 (pe_int (i := 1) (j := j2) (pos := q2)) rfl
    have tnot := pt_not (pos := q5) (pt_val (isV_pe (a := n3) (b := n4) (c := n5) (pos := q4) R) (fun _ => rfl))
    have tst := (pw_or (pos := q6) tcmp (pw_or1 tnot)).pt
    have ptup := pe_tupF (x1 := k5) (pos := q10) (pa_cons (pe_str (x := mkS refT) (j := j3) (pos := q8)) (pa_cons e2 pa_nil rfl) rfl)
    refine ⟨_, pss_cons (ps_if (pos := q7) tst (neverS X thn_) pss_nil) (pss_one (ps_ret (pos := q11) ptup)), fun D σ H h0 h1 hq => ?_⟩
    obtain ⟨q, h2, h3⟩ := h1
    refine ⟨⟨q, h2, h3⟩, fun v H1 s1 hv => ?_⟩
    subst hv
    unfold L2.tC
    refine s_cmp .ne [] _ _ _ _ _ (.bl false) _ (fun a h => by cases h) (.safe (.int 1)) (.safe (.int 1)) rfl fun v H2 s2 r2 => ?_
    cases r2
    refine ⟨false, rfl, ?_⟩
    dsimp only
    rw [if_neg Bool.false_ne_true]
    refine ⟨h0, true, rfl, ?_⟩
    dsimp only
    rw [if_neg (show ¬ ((!true) = true) from Bool.false_ne_true)]
    have s12 := s1.trans s2
    refine ⟨⟨q, h2, s12 _ _ h3⟩, fun v H3 s3 hv => ⟨by show 2 ≤ sizeLine; rw [sizeLine_eq]; omega, fun q' o hn od => ?_⟩⟩
    subst hv
    have hn0 : H q' = none := Same.free (s12.trans s3) hn
    exact hq _ q' o ((s12.trans s3).trans (same_upd hn)) hn0 upd_same od
  · cases o
theorem refBody_ok (R : RefX X p ec l e) {i : Nat} (hi : flOk l e i = true) {l1 l2 : List Ex} (hl : l = l1 ++ l2) {ss : List Stmt} (o : refBody l1 l2 ss = true) : ∃ t, PSs X ss t ∧ ∀ (D : Ends) H,
    (∀ H' q o, Same H H' → H q = none → H' q = some (.frz o (.tup [.str (mkS refT), .int i])) → o.dict = none → D.rt (.ref q) H') → t D [some (.ref p.1), none] H := by
  obtain ⟨_, _, c3⟩ := flOk_get hi
  have hlen : l1.length + l2.length ≤ 30 := by rw [hl, List.length_append] at c3; exact c3
  have m1 : ∀ x ∈ l1, x ∈ l := fun x hx => by rw [hl]; exact List.mem_append_left _ hx
  have m2 : ∀ x ∈ l2, x ∈ l := fun x hx => by rw [hl]; exact List.mem_append_right _ hx
  have nd : X.N.Nodup := by rw [R.N]; exact R.sc.nd
  have ix : X.N[1]? = some ("_law_flags" : Str) := by rw [R.N]; rfl
  have sz : 30 ≤ sizeLine := by rw [sizeLine_eq]; omega
  unfold refBody at o
  split at o
  · rename_i y1 n1 es1 q1 q2 y2 n2 y3 n3 es2 q3 q4 q5 r
    simp only [Bool.and_eq_true, decide_eq_true_eq] at o
    obtain ⟨⟨⟨⟨⟨rfl, rfl⟩, rfl⟩, o1⟩, o2⟩, o3⟩ := o
    obtain ⟨t, ht, hq⟩ := refTail_ok R hi o3
    refine ⟨_, pss_cons (ps_set nd ix (.inl R.l2) (pe_lst (is_pa R l1 es1 m1 o1)) (swFalse' rfl _ _ _) (.inl (R.fn _)))
      (pss_cons (ps_set nd ix (.inl R.l2) (pe_op op_cat (pe_var ix (.inl R.l2)) (pe_lst (is_pa R l2 es2 m2 o2))) (swFalse' rfl _ _ _) (.inl (R.fn _))) ht), fun D H hw => ?_⟩
    refine ⟨rfl, by rw [List.length_map]; omega, fun p1 hp1 => ?_⟩
    refine ⟨.ref p1, rfl, rfl, by rw [List.length_map]; omega, fun p2 hp2 => ?_⟩
    refine ⟨p1, p2, _, _, rfl, rfl, same_upd hp2 _ _ upd_same, upd_same, by rw [List.length_map, List.length_map]; omega, fun p3 hp3 => ?_⟩
    have s3 : Same H (upd (upd (upd H p1 (.lst (l1.map fun e' => V.bl (decide (e = e'))))) p2 (.lst (l2.map fun e' => V.bl (decide (e = e'))))) p3 (.lst (l1.map (fun e' => V.bl (decide (e = e'))) ++ l2.map fun e' => V.bl (decide (e = e'))))) :=
      ((same_upd hp1).trans (same_upd hp2)).trans (same_upd hp3)
    refine hq D _ _ rfl ⟨p3, rfl, ?_⟩ fun H' q o s hn => hw H' q o (s3.trans s) (Same.free s3 hn)
    rw [hl, List.map_append]
    exact upd_same
  · rename_i y1 n1 es1 q1 q2 r _
    simp only [Bool.and_eq_true, decide_eq_true_eq] at o
    obtain ⟨⟨⟨rfl, rfl⟩, o1⟩, o3⟩ := o
    rw [List.append_nil] at hl
    subst hl
    obtain ⟨t, ht, hq⟩ := refTail_ok R hi o3
    refine ⟨_, pss_cons (ps_set nd ix (.inl R.l2) (pe_lst (is_pa R l es1 m1 o1)) (swFalse' rfl _ _ _) (.inl (R.fn _))) ht, fun D H hw => ?_⟩
    refine ⟨rfl, by rw [List.length_map]; omega, fun p1 hp1 => ?_⟩
    exact hq D _ _ rfl ⟨p1, rfl, upd_same⟩ fun H' q o s hn => hw H' q o ((same_upd hp1).trans s) (Same.free (same_upd hp1) hn)
  · cases o
end
def spRef (ec : Ex → Addr) (l : List Ex) : Addr × Obj → VK → Hp → Prop := fun p Q H => ∃ (e : Ex) (i : Nat), e ∈ l ∧ flOk l e i = true ∧ Zc (.ref (ec e)) none p.2 ∧ (∃ vs, p.2.data = .fields vs) ∧
  ∀ H' q o, Same H H' → H q = none → H' q = some (.frz o (.tup [.str (mkS refT), .int i])) → o.dict = none → Q (.ref q) H'
theorem ref_ok {P : Program} {w : World} {K : PySem.W.Frag} {mg : Str → Option Value} {base : Heap} {ec : Ex → Addr} {f : Addr} {fd : FuncData} {name qual : Str} {params : Arguments} {body : List Stmt} {scope : Scope} {l1 l2 : List Ex}
    (F : FunD K name qual params body scope [] [] f fd) (S : FnScope RefN ["_law_e"] scope) (o : refBody l1 l2 body = true) (x : ExF K mg ec (l1 ++ l2))
    (sc : (glS scope "isinstance" && glS scope "ValueError" && (l1 ++ l2).all (fun e => glS scope e.nm) && decide (scope.names.lookup ("_law_e" : Str) = some .local) && decide (scope.names.lookup ("_law_flags" : Str) = some .local)) = true) :
    FnE P w K mg base 1 f fd ["_law_e"] (spRef ec (l1 ++ l2)) := by
  simp only [Bool.and_eq_true, decide_eq_true_eq, List.all_eq_true, glS] at sc
  obtain ⟨⟨⟨⟨s1, s2⟩, s3⟩, s4⟩, s5⟩ := sc
  refine fnE_of F S rfl fun cdv A outer s H Q p hr hsp => ?_
  obtain ⟨e, i, he, hi, hz, hf, hq⟩ := hsp
  have R : RefX (L2H.cxH (L2.CX P w) P w K mg base RefN qual scope f cdv A outer s H (fun _ _ _ => False) p) p ec (l1 ++ l2) e := {
    N := rfl
    sc := S
    fn := fun _ => rfl
    un := by
      have := hr.un
      show (A.deeper _).units + 65 < cLine
      omega
    F := x
    he := he
    hp := List.mem_cons_self
    hz := hz
    hf := hf
    g1 := s1
    g2 := s2
    g3 := s3
    l1 := s4
    l2 := s5 }
  obtain ⟨t, ht, h⟩ := refBody_ok R hi rfl o
  exact ⟨t, ht, h _ H hq⟩
end PLq
namespace PLq
open PySem L2
open RZ (ItzT iZipA pi_zipA)
def catNm : Option Ex → Str
  | none => "PieceError"
  | some e => e.nm
def okHd (ck : Ck) : Hd → Option Str → List Stmt → Bool
  | .ref i f _, some n, [.Return (some (.Call (.Name g _) [.Name y _] [] _)) _] => decide (g = f) && ck.glob g && decide (y = n) && decide (ck.N[i]? = some n) && decide (ck.sc.names.lookup n = some .local) && !(n == "__debug__") && !(n == "__classdict__")
  | .non, none, [.Return (some (.Constant .none _ _)) _] => true
  | _, _, _ => false
def locOk (ck : Ck) (x : Str) : Bool := decide (ck.sc.names.lookup x = some .local) || decide (ck.sc.names.lookup x = some .cell)
def noComp : Expr → Bool
  | .ListComp _ _ _ _ => false
  | .SetComp _ _ _ _ => false
  | .DictComp _ _ _ _ _ => false
  | _ => true
def isLc : Expr → Bool
  | .ListComp _ _ _ _ => true
  | _ => false
def fresh : Cd → Bool
  | .lst _ => true
  | .dnew => true
  | .dnewT => true
  | .lc _ _ _ _ _ => true
  | _ => false
def freshG : Cd → Bool
  | .bin .add _ _ => true
  | .bin .mul _ _ => true
  | .bif .list _ => true
  | .xop .sorted _ => true
  | .xop .lstS _ => true
  | .xop .srtS _ => true
  | _ => false
def noD : Cd → Bool
  | .lcD _ _ _ _ _ => false
  | _ => true
def okTgS (ck : Ck) : Tg → Expr → Bool
  | .name i, .Name x _ => decide (ck.N[i]? = some x) && locOk ck x && !ck.lin.contains i
  | .tup2 a b, .Tuple [e1, e2] _ _ => okTgS ck a e1 && okTgS ck b e2 && plainE e1 && plainE e2
  | _, _ => false
def parOk (ck : Ck) (x y : Str) (px py : Pos) (a b : Expr) : Bool :=
  decide (ck.sc.names.lookup x = some .local) && decide (ck.sc.names.lookup y = some .local) && (px.line == py.line) && !(x == y) && plainE a && plainE b && !([a, b].all (foldedForSure 8)) && !([a, b].all (constantsAlone 8))
mutual
def okS (ck : Ck) (exs : List Ex) : Sd → Stmt → Bool
  | .doc, .Expr (.Constant (.str _) _ _) _ => true
  | .set i c, .Assign [.Name x _] e _ => decide (ck.N[i]? = some x) && locOk ck x && !ck.lin.contains i && okE ck false c e && noD c && (noComp e || isLc e)
  | .setF i c, .Assign [.Name x _] e _ => decide (ck.N[i]? = some x) && locOk ck x && ck.lin.contains i && fresh c && okE ck false c e && (noComp e || isLc e)
  | .unp tg c, .Assign [.Tuple [e1, e2] k p] e _ => okTgS ck tg (.Tuple [e1, e2] k p) && okE ck false c e && noComp e && (match e with | .Tuple _ _ _ => false | _ => true)
  | .unp3 i j k c, .Assign [.Tuple [.Name x px, .Name y py, .Name z pz] _ _] e _ => okTgS ck (.name i) (.Name x px) && okTgS ck (.name j) (.Name y py) && okTgS ck (.name k) (.Name z pz) && okE ck false c e && noComp e && (match e with | .Tuple _ _ _ => false | _ => true)
  | .par i j a b, .Assign [.Tuple [.Name x px, .Name y py] _ _] (.Tuple [e1, e2] _ _) _ => decide (ck.N[i]? = some x) && decide (ck.N[j]? = some y) && decide (i ≠ j) && !ck.lin.contains i && !ck.lin.contains j && okE ck false a e1 && okE ck false b e2 && parOk ck x y px py e1 e2
  | .ret c, .Return (some e) _ => okE ck false c e
  | .retL i, .Return (some (.Name x _)) _ => ck.slot i x && ck.lin.contains i
  | .expr c, .Expr e _ => okE ck false c e && noComp e
  | .app i c, .Expr (.Call (.Attribute (.Name x _) m p1) [e] [] p2) _ => ck.slot i x && ck.lin.contains i && decide (m = "append") && okE ck false c e && plainE e && attrLine p1 p2
  | .put i k v, .Assign [.Subscript (.Name x _) e1 _] e2 _ => ck.slot i x && ck.lin.contains i && okE ck false k e1 && okE ck false v e2 && plainE e1 && noComp e2
  | .ite c a b, .If e p q _ => tstOk c && okE ck false c e && okSs ck exs a p && okSs ck exs b q
  | .whl c b, .While e p [] _ => tstOk c && okE ck false c e && okSs ck exs b p
  | .loop tg it b, .For target e p [] _ => okTgS ck tg target && okIt ck tg it e && plainE e && okSs ck exs b p
  | .setG i c, .Assign [.Name x _] e _ => decide (ck.N[i]? = some x) && locOk ck x && ck.lin.contains i && freshG c && okE ck false c e && noComp e
  | .pop i j c, .Assign [.Name x _] (.Call (.Attribute (.Name y _) m p1) [e] [] p2) _ => decide (ck.N[i]? = some x) && locOk ck x && !ck.lin.contains i && ck.slot j y && ck.lin.contains j && decide (m = "pop") && okE ck false c e && plainE e && attrLine p1 p2
  | .popx j c, .Expr (.Call (.Attribute (.Name y _) m p1) [e] [] p2) _ => ck.slot j y && ck.lin.contains j && decide (m = "pop") && okE ck false c e && plainE e && attrLine p1 p2
  | .ext j c, .Expr (.Call (.Attribute (.Name y _) m p1) [e] [] p2) _ => ck.slot j y && ck.lin.contains j && decide (m = "extend") && okE ck false c e && plainE e && attrLine p1 p2
  | .tryX ls d b, .Try body [.ExceptHandler (some (.Name x _)) n hb _] [] [] _ => decide (x = catNm d.m) && ck.glob x && ck.lin.all (fun i => ls.contains i) && ck.trs.contains d && okHd ck d.h n hb && okSs ck exs b body
  | .rse x, .Raise (some (.Call (.Name n _) [.Constant (.str _) _ _] [] _)) none _ => decide (n = x.nm) && ck.glob n && exs.contains x
  | _, _ => false
def okSs (ck : Ck) (exs : List Ex) : Sds → List Stmt → Bool
  | .nil, [] => true
  | .cons (.kill _) r, ss => okSs ck exs r ss
  | .cons (.frzB i b) .nil, ss => okSs { ck with lin := less ck.lin i } exs b ss
  | .cons (.fapp j n xs z) r, .Assign [.Name x _] (.Call (.Name f _) es [] _) _ :: .Expr (.Call (.Attribute (.Subscript (.Name y _) e0 _) m p1) [e1] [] p2) _ :: ss =>
    decide (ck.N[j]? = some x) && locOk ck x && !ck.lin.contains j && decide (ck.fs[n]? = some f) && ck.glob f && frT.contains f && oks ck xs es && !es.isEmpty && ck.slot j y && okE ck false (.int 0) e0 && plainE e0 && decide (m = "append") && okE ck false (.str z) e1 && plainE e1 && attrLine p1 p2 && okSs ck exs r ss
  | .cons a r, s :: ss => okS ck exs a s && okSs ck exs r ss
  | _, _ => false
end
def RsG (K : PySem.W.Frag) (mg : Str → Option Value) (C : Addr) (x : Str) : Prop :=
  ∃ B newId initId bm, ExcBaseFacts B newId initId bm ∧ PySem.W.excIn K C bm newId = true ∧ mg x = some (.ref C) ∧ PySem.W.keepIn K (.ref C) = true ∧ PySem.W.subIn K (.ref C) (.type "BaseException") = some true ∧ PySem.W.typeIn K (.ref C) = some (.type "type")
def RsAt (X : Cx) (C : Addr) (x : Str) : Prop := ∀ (m : Str) (j : Nat) (p p2 pos : Pos), Gl X x → PMk X (.Call (.Name x p) [.Constant (.str m) j p2] [] pos) (fun _ H Q => Q (.ref C) none H)
theorem rs_at {X : Cx} {C : Addr} {x : Str} (h : RsG X.K X.mg C x) (hdb : (x == ("__debug__" : Str)) = false) : RsAt X C x := by
  obtain ⟨B, n, i, bm, h1, h2, h3, h4, h5, h6⟩ := h
  exact fun m j p p2 pos g => pmk_own h1 h2 h3 h4 (raises_own h5 h6) g hdb
structure TrG (P : Program) (w : World) (K : PySem.W.Frag) (mg : Str → Option Value) (base : Heap) (ec : Ex → Addr) (k : Nat) (d : TrD) : Prop where
  c : ∃ c : Addr, mg (catNm d.m) = some (.ref c) ∧ ∀ e ∈ d.es, PySem.W.exmOne K (.ref (ec e)) (.ref c) = some (caught d.m e)
  h : match d.h with
    | .ref _ f l => (∃ fa fd ps, FnE P w K mg base k fa fd ps (spRef ec l) ∧ mg f = some (.ref fa) ∧ PySem.W.keepIn K (.ref fa) = true ∧ Binds K fd ps []) ∧ ∀ e ∈ l, flOk l e (l.idxOf e) = true
    | .non => True
structure XS (X : Cx) (ck : Ck) (ec : Ex → Addr) (W : WX) (Γ : Tbl) (C : Cns) (exs : List Ex) : Prop where
  ok : XOk X ck ec W Γ C
  po : PassesOwn (model X.prog X.w) X.A X.env X.xe
  fnt : ∀ x, X.fn x = true
  kind : ck.sc.kind = .function
  rs : ∀ e ∈ exs, RsG X.K X.mg (ec e) e.nm
  hs : X.stack = X.env :: X.outer
  hf : X.env.frame = some X.env.locals
  tr : ∀ d ∈ ck.trs, ∃ k, TrG X.prog X.w X.K X.mg X.base ec k d ∧ L2H.RoomH k X.A
  ta : Takes X W
section
variable {X : Cx} {ck : Ck} {ec : Ex → Addr} {W : WX} {Γ : Tbl} {C : Cns} {exs : List Ex}
theorem XS.loc (h : XS X ck ec W Γ C exs) {x : Str} (o : locOk ck x = true) : Loc X.env.scope x := by
  unfold locOk at o
  rw [Bool.or_eq_true, decide_eq_true_eq, decide_eq_true_eq, ← h.ok.sc] at o
  exact o
theorem XS.ix (h : XS X ck ec W Γ C exs) {i : Nat} {x : Str} (o : ck.N[i]? = some x) : X.N[i]? = some x := by rw [h.ok.N]; exact o
theorem not_mem {l : List Nat} {i : Nat} (h : (!l.contains i) = true) : i ∉ l := fun z => by
  rw [List.contains_iff_mem.mpr z] at h; cases h
theorem okTgS_free : ∀ (tg : Tg) (e : Expr), okTgS ck tg e = true → tgFree ck.lin tg
  | .name i, e, o => by
    cases e with
    | Name x pos =>
      simp only [okTgS, Bool.and_eq_true] at o
      exact not_mem o.2
    | _ => exact Bool.noConfusion o
  | .tup2 a b, e, o => by
    cases e with
    | Tuple es k pos =>
      match es, o with
      | [e1, e2], o =>
        simp only [okTgS, Bool.and_eq_true] at o
        exact ⟨okTgS_free a e1 o.1.1.1, okTgS_free b e2 o.1.1.2⟩
      | [], o => exact Bool.noConfusion o
      | [_], o => exact Bool.noConfusion o
      | _ :: _ :: _ :: _, o => exact Bool.noConfusion o
    | _ => exact Bool.noConfusion o
theorem sndTgS (h : XS X ck ec W Γ C exs) : ∀ (tg : Tg) (e : Expr), okTgS ck tg e = true → PG X e (rdTg X.KK tg)
  | .name i, e, o => by
    cases e with
    | Name x pos =>
      simp only [okTgS, Bool.and_eq_true, decide_eq_true_eq] at o
      exact pg_name h.ok.nd (h.ix o.1.1) (h.loc o.1.2) (.inl (h.fnt _))
    | _ => exact Bool.noConfusion o
  | .tup2 a b, e, o => by
    cases e with
    | Tuple es k pos =>
      match es, o with
      | [e1, e2], o =>
        simp only [okTgS, Bool.and_eq_true] at o
        refine pg_tup h.ok.calm (pgs_cons (sndTgS h a e1 o.1.1.1) (pgs_cons (sndTgS h b e2 o.1.1.2) pgs_nil ?_) ?_) ?_ ?_
        · rw [assignEach1 o.2]; rfl
        · rw [assignEach2 o.1.2 o.2, assignEach1 o.2]; rfl
        · rw [assignEach2 o.1.2 o.2]; rfl
        · rw [assignEach2 o.1.2 o.2]; rfl
      | [], o => exact Bool.noConfusion o
      | [_], o => exact Bool.noConfusion o
      | _ :: _ :: _ :: _, o => exact Bool.noConfusion o
    | _ => exact Bool.noConfusion o
theorem okTgS_tup {tg : Tg} {e : Expr} (h : okTgS ck tg e = true) : ∀ a b, tg = .tup2 a b → ∃ es k p, e = .Tuple es k p := by
  intro a b z
  subst z
  cases e with
  | Tuple es k p => exact ⟨es, k, p, rfl⟩
  | _ => exact Bool.noConfusion h
theorem sw_lc {elt : Expr} {gs : List Comprehension} {scope : Scope} {pos py : Pos} {y : Str} {l : Nat} {env : PySem.Env} (hk : env.scope.kind = .function) :
    swapsWith (.ListComp elt gs scope pos) (some (.Name y py)) l env = pure ((env.scope.names.lookup y == some .local) && (py.line == pos.line) && !(scope.names.any fun (n, k) => n == y && (k == .local || k == .cell))) := by
  have hb : env.blockKind = .function := by unfold Env.blockKind; rw [hk]; rfl
  unfold swapsWith
  simp only [hb, Expr.pos]
  rfl
theorem lc_parts (h : XOk X ck ec W Γ C) {own : List Nat} {tg : Tg} {it : It} {c el : Cd} {m : Bool} {elt : Expr} {gens : List Comprehension} {scope : Scope} {pos : Pos} (o : okE ck m (.lc own tg it c el) (.ListComp elt gens scope pos) = true) :
    ∃ target iter ifs, ∃ ow : List (Str × Nat), ∃ tt : TT, gens = [⟨target, iter, ifs, 0⟩] ∧ PI X target iter (tI X.KK ck.lin (wsh ec W) (prIt it) (evi Γ C it)) ∧ BlkOk X.N X.env.scope scope ow ∧
      (∀ (s : Shared) (H : Hp) (Cc : Addr) (cl : List (Str × Addr)) (fp : List Addr), PG (X.blk s H scope (compEnvC scope cl Cc X.env) fp) target (rdTg X.KK tg)) ∧
      (∀ (s : Shared) (H : Hp) (Cc : Addr) (cl : List (Str × Addr)) (fp : List Addr), PTs (X.blk s H scope (compEnvC scope cl Cc X.env) fp) ifs tt) ∧
      (∀ (s : Shared) (H : Hp) (Cc : Addr) (cl : List (Str × Addr)) (fp : List Addr) (xe : Value → Shared → Prop) (W0 : WX), Tk (Cx.xes (X.blk s H scope (compEnvC scope cl Cc X.env) fp) xe) W0 → PE (Cx.xes (X.blk s H scope (compEnvC scope cl Cc X.env) fp) xe) elt ((fun W0 => tE X.KK ck.lin (wsh ec W0) (ev Γ C el)) W0)) ∧
      (∀ x, foldedSetIterable iter X.env x = pure x) ∧
      ∀ σ H Q, tF X.KK ck.lin (wsh ec W) (ev Γ C (.lc own tg it c el)) σ H Q → tLc (tI X.KK ck.lin (wsh ec W) (prIt it) (evi Γ C it)) (rdTg X.KK tg) tt (tE X.KK ck.lin (wsh ec fun c d _ H' => W c d σ H') (ev Γ C el)) (ow.map (·.2)) σ H Q := by
  match gens, o with
  | [⟨target, iter, ifs, isa⟩], o =>
    simp only [okE, Bool.and_eq_true, decide_eq_true_eq] at o
    obtain ⟨⟨⟨⟨⟨⟨⟨⟨⟨o1, o2⟩, o3⟩, o4⟩, o5⟩, o6⟩, o7⟩, o8⟩, o9⟩, o10⟩ := o
    subst o1
    have hh := fun s H Cc cl fp => blk_ok h scope s H Cc cl fp
    have pi := sndI it tg target iter h o4 (okTg_tup o6)
    have htt : ∃ tt : TT, (∀ (s : Shared) (H : Hp) (Cc : Addr) (cl : List (Str × Addr)) (fp : List Addr), PTs (X.blk s H scope (compEnvC scope cl Cc X.env) fp) ifs tt) ∧
        ∀ σ H Q, tT X.KK ck.lin (wsh ec fun _ _ _ _ => False) (ev Γ C c) σ H Q → tt σ H Q := by
      match ifs, o9 with
      | [], o9 =>
        cases c with
        | bl b =>
          cases b with
          | true => exact ⟨tYes, fun _ _ _ _ _ => pts_nil, fun _ _ _ q => okb_T q⟩
          | false => exact Bool.noConfusion o9
        | _ => exact Bool.noConfusion o9
      | [t], o9 => exact ⟨_, fun s H Cc cl fp => pts_one (sndT c t (hh s H Cc cl fp) o2 o9), fun _ _ _ q => q⟩
      | _ :: _ :: _, o9 => exact Bool.noConfusion o9
    obtain ⟨tt, ht1, ht2⟩ := htt
    have bk : BlkOk X.N X.env.scope scope (own.map fun i => (ck.N.getD i Str.empty, i)) := blkOk_by (by rw [h.N, h.sc]; exact o3)
    have e2 : (own.map fun i => (ck.N.getD i Str.empty, i)).map (·.2) = own := by rw [List.map_map]; simp [Function.comp_def]
    have free : tgFree ck.lin tg := okTg_free (ck := { ck with sc := relS scope ck.sc }) tg target o6
    refine ⟨target, iter, ifs, _, tt, rfl, pi, bk, fun s H Cc cl fp => (sndTg (ck := { ck with sc := relS scope ck.sc }) (hh s H Cc cl fp) (fun _ z => z) tg target o6).1, ht1, fun s H Cc cl fp xe W0 tk => sndE (ck := { ck with sc := relS scope ck.sc }) el false elt (blk_okx h scope s H Cc cl fp xe tk) o10, folded o5 _, fun σ H Q q => ?_⟩
    rw [e2]
    exact lc_F free o7 (fun hp => okPr hp o4) ht2 (fun _ _ _ z => z) q
  | [], o => exact Bool.noConfusion o
  | g0 :: g :: _, o => cases g0; cases g; exact Bool.noConfusion o
theorem swFalse {e : Expr} (hn : noComp e = true) (t : Option Expr) (l : Nat) (env : PySem.Env) : swapsWith e t l env = pure false := by
  cases e <;> first | rfl | cases hn
theorem sndF (h : XOk X ck ec W Γ C) {c : Cd} {e : Expr} (fr : fresh c = true) (o : okE ck false c e = true) : PE X e (tF X.KK ck.lin (wsh ec W) (ev Γ C c)) := by
  cases c with
  | lst xs =>
    cases e with
    | List es pos =>
      have o : oks ck xs es = true := o
      exact (pe_lst (sndS xs es h o)).imp fun _ _ _ q => lst_F q
    | _ => exact Bool.noConfusion o
  | dnew =>
    cases e with
    | Dict ks vs pos =>
      match ks, vs, o with
      | [], [], _ => exact pe_dnewK.imp fun _ _ _ q => dnew_F q
      | _ :: _, _, o => exact Bool.noConfusion o
      | [], _ :: _, o => exact Bool.noConfusion o
    | _ => exact Bool.noConfusion o
  | dnewT =>
    cases e with
    | Dict ks vs pos =>
      match ks, vs, o with
      | [], [], _ => exact PE.imp (pe_dnewR (X := X)) fun _ _ _ q => dnewT_F (K := X.KK) q
      | _ :: _, _, o => exact Bool.noConfusion o
      | [], _ :: _, o => exact Bool.noConfusion o
    | _ => exact Bool.noConfusion o
  | lc own tg it c el =>
    cases e with
    | ListComp elt gens scope pos =>
      obtain ⟨target, iter, ifs, ow, tt, rfl, pi, bk, pg, pt, pe, fo, im⟩ := lc_parts h o
      exact (pe_lcx (te := fun W0 => tE X.KK ck.lin (wsh ec W0) (ev Γ C el)) h.tk h.calm h.nd pi bk pg pt pe fo).imp im
    | _ => exact Bool.noConfusion o
  | _ => cases fr
def guardL (r : Res D) : Res D := r.bind fun d => match d with
  | .lst ds => .ok (.lst ds)
  | _ => .stuck
theorem addL_F {K : KK} {lin : List Nat} {W : Wsh} {σ : L2.St} {H : Hp} {Q : VK} {f g : PLq.Env → Res D} (h : tF K lin W (fun ρ => guardL ((f ρ).bind fun x => (g ρ).bind fun y => ofO (addD x y))) σ H Q) : tOp (rAdds K) (tB K lin W f) (tB K lin W g) σ H Q := by
  obtain ⟨own, ρ, G, p⟩ := h
  refine stepB G (fun d x H1 q1 s1 r1 => ?_) (fun e H1 q s1 => by simp only [guardL, q, Res.bind] at p; exact p H1 s1) fun q => by simp only [guardL, q, Res.bind] at p; exact p
  simp only [guardL, q1, Res.bind] at p
  refine stepB (G.mono s1) (fun e y H2 q2 s2 r2 => ?_) (fun e H2 q s2 => by simp only [q] at p; exact p H2 (s1.trans s2)) fun q => by simp only [q] at p; exact p
  simp only [q2] at p
  cases d with
  | lst xs =>
    cases e with
    | lst ys =>
      unfold addD at p
      simp only at p
      by_cases hl : xs.length + ys.length ≤ szL
      · rw [if_pos hl] at p
        obtain ⟨a, vs, rfl, ha, ra⟩ := (r1.mono s2).lst_
        obtain ⟨b, ws, rfl, hb, rb⟩ := r2.lst_
        exact .inr (.inr (.inl ⟨_, _, _, _, rfl, rfl, ha, hb, by rw [ra.length, rb.length, ← szL_eq]; exact hl, fun q hq => p q _ H2 _ (s1.trans s2) hq rfl (.lst (ra.app rb))⟩))
      · rw [if_neg hl] at p; exact p.elim
    | _ => exact p.elim
  | int i =>
    cases e <;> exact p.elim
  | str i =>
    cases e with
    | str j =>
      unfold addD at p
      simp only at p
      by_cases hl : i.length + j.length ≤ szL
      · rw [if_pos hl] at p; exact p.elim
      · rw [if_neg hl] at p; exact p.elim
    | _ => exact p.elim
  | tup i =>
    cases e with
    | tup j =>
      unfold addD at p
      simp only at p
      by_cases hl : i.length + j.length ≤ szL
      · rw [if_pos hl] at p; exact p.elim
      · rw [if_neg hl] at p; exact p.elim
    | _ => exact p.elim
  | _ => cases e <;> exact p.elim
theorem mulL_F {K : KK} {lin : List Nat} {W : Wsh} {σ : L2.St} {H : Hp} {Q : VK} {f g : PLq.Env → Res D} (h : tF K lin W (fun ρ => guardL ((f ρ).bind fun x => (g ρ).bind fun y => ofO (mulD x y))) σ H Q) : tOp (rMuls K) (tB K lin W f) (tB K lin W g) σ H Q := by
  obtain ⟨own, ρ, G, p⟩ := h
  refine stepB G (fun d x H1 q1 s1 r1 => ?_) (fun e H1 q s1 => by simp only [guardL, q, Res.bind] at p; exact p H1 s1) fun q => by simp only [guardL, q, Res.bind] at p; exact p
  simp only [guardL, q1, Res.bind] at p
  refine stepB (G.mono s1) (fun e y H2 q2 s2 r2 => ?_) (fun e H2 q s2 => by simp only [q] at p; exact p H2 (s1.trans s2)) fun q => by simp only [q] at p; exact p
  simp only [q2] at p
  have nl : ∀ z, mulD d e = some z → (∀ zs, z ≠ .lst zs) → False := fun z hz hn => by
    rw [hz] at p
    cases z with
    | lst zs => exact hn zs rfl
    | _ => exact p.elim
  cases d with
  | lst xs =>
    cases e with
    | int k =>
      unfold mulD at p
      simp only at p
      by_cases hl : 0 ≤ k ∧ k < 4096 ∧ xs.length * k.toNat ≤ szL
      · rw [if_pos hl] at p
        obtain ⟨a, vs, rfl, ha, ra⟩ := (r1.mono s2).lst_
        cases r2.int_
        exact .inr (.inl ⟨_, _, _, rfl, rfl, ha, by omega, by omega, by rw [ra.length, ← szL_eq]; exact hl.2.2, fun q hq => p q _ H2 _ (s1.trans s2) hq rfl (.lst (ra.rep _))⟩)
      · rw [if_neg hl] at p; exact p.elim
    | _ => exact p.elim
  | int i =>
    cases e with
    | int j =>
      cases q : mulD (.int i) (.int j) with
      | none => rw [q] at p; exact p.elim
      | some z =>
        refine (nl z q fun zs e => ?_).elim
        subst e
        unfold mulD at q
        simp only at q
        split at q <;> cases q
    | _ => exact p.elim
  | str i =>
    cases e with
    | int j =>
      cases q : mulD (.str i) (.int j) with
      | none => rw [q] at p; exact p.elim
      | some z =>
        refine (nl z q fun zs e => ?_).elim
        subst e
        unfold mulD at q
        simp only at q
        split at q <;> cases q
    | _ => exact p.elim
  | tup i =>
    cases e with
    | int j =>
      cases q : mulD (.tup i) (.int j) with
      | none => rw [q] at p; exact p.elim
      | some z =>
        refine (nl z q fun zs e => ?_).elim
        subst e
        unfold mulD at q
        simp only at q
        split at q <;> cases q
    | _ => exact p.elim
  | _ => cases e <;> exact p.elim
theorem callL_F {X : Cx} {lin : List Nat} {W : Wsh} {σ : L2.St} {H : Hp} {Q : VK} {f : PLq.Env → Res (List D)} {r : List V → Hp → VK → Prop} {h : List D → Option D}
    (sv : ∀ own H vs ds zs Q, (∀ a, a ∈ own → ∃ o, H a = some o) → RepBs X.KK own H vs ds → h ds = some (.lst zs) → (∀ q ws, H q = none → Reps X.KK (hid own H) ws zs → Q (.ref q) (L2.upd H q (.lst ws))) → r vs H Q)
    (q : tF X.KK lin W (fun ρ => guardL ((f ρ).bind fun ds => ofO (h ds))) σ H Q) : tCB r (tAB X.KK lin W f) σ H Q := by
  obtain ⟨own, ρ, G, p⟩ := q
  refine stepAB G (fun ds vs H1 q s r => ?_) (fun e H1 q s => by simp only [guardL, q, Res.bind] at p; exact p H1 s) fun q => by simp only [guardL, q, Res.bind] at p; exact p
  simp only [guardL, q, Res.bind] at p
  cases z : h ds with
  | none => rw [z] at p; exact p.elim
  | some w =>
    rw [z] at p
    cases w with
    | lst zs => exact sv own H1 vs ds zs Q (G.mono s).trk r z fun q' ws hq rw' => p q' _ H1 _ s hq rfl (.lst rw')
    | _ => exact p.elim
theorem listL {X : Cx} : ∀ own H vs ds zs Q, (∀ a, a ∈ own → ∃ o, H a = some o) → RepBs X.KK own H vs ds → bifD .list ds = some (.lst zs) → (∀ q ws, H q = none → Reps X.KK (hid own H) ws zs → Q (.ref q) (L2.upd H q (.lst ws))) → rBif X .list vs H Q := by
  intro own H vs ds zs Q tr hr hz q
  match ds, hz with
  | [.lst es], hz =>
    cases hz
    obtain ⟨v, rfl, r⟩ := hr.one
    obtain ⟨a, ws, rfl, ha, ra⟩ := r.lst_
    exact ⟨a, ws, rfl, .inl (.of ha), fun l hl => q l ws hl ra⟩
  | [.tup es], hz =>
    cases hz
    obtain ⟨v, rfl, r⟩ := hr.one
    obtain ⟨a, ws, o, rfl, _, ha, _, ra⟩ := r.tup_
    exact ⟨a, ws, rfl, .inr (.inl (.inr ⟨o, ha⟩)), fun l hl => q l ws hl ra⟩
theorem srtL {X : Cx} : ∀ own H vs ds zs Q, (∀ a, a ∈ own → ∃ o, H a = some o) → RepBs X.KK own H vs ds → srtD ds = some (.lst zs) → (∀ q ws, H q = none → Reps X.KK (hid own H) ws zs → Q (.ref q) (L2.upd H q (.lst ws))) → rSrt X vs H Q := by
  intro own H vs ds zs Q tr hr hz q
  exact s_srtF tr hr hz fun r ws es e hn rw' => by cases e; exact q r ws hn rw'
theorem lstSL {X : Cx} : ∀ own H vs ds zs Q, (∀ a, a ∈ own → ∃ o, H a = some o) → RepBs X.KK own H vs ds → lstSD ds = some (.lst zs) → (∀ q ws, H q = none → Reps X.KK (hid own H) ws zs → Q (.ref q) (L2.upd H q (.lst ws))) → rLstS vs H Q := by
  intro own H vs ds zs Q tr hr hz q
  unfold lstSD at hz
  split at hz
  · split at hz
    case isFalse => cases hz
    case isTrue hl =>
      cases hz
      obtain ⟨v, rfl, r⟩ := hr.one
      cases r.str_
      exact ⟨_, rfl, by rw [← szL_eq]; exact hl, fun p hp => q p _ hp (signs_rep _)⟩
  · cases hz
theorem evs_of (h : XOk X ck ec W Γ C) : ∀ (xs : Cds) (es : List Expr), okBs ck xs es = true → Evs X ck.lin (wsh ec W) Γ C xs es
  | .nil, [], _ => trivial
  | .nil, _ :: _, o => Bool.noConfusion o
  | .cons a r, [], o => Bool.noConfusion o
  | .cons a r, e :: es, o => by
    simp only [okBs, Bool.and_eq_true] at o
    exact ⟨sndE a true e h o.1.1, o.1.2, evs_of h r es o.2⟩
theorem srtS_F {X : Cx} {lin : List Nat} {W : Wsh} {σ : L2.St} {H : Hp} {Q : VK} {f : PLq.Env → Res (List D)} (q : tF X.KK lin W (fun ρ => guardL ((f ρ).bind fun ds => ofO (srtSD ds))) σ H Q) : tCB (rSrtA X.w) (tCons (tCB (rSetA X.KK X.w) (tAB X.KK lin W f)) tNil) σ H Q := by
  obtain ⟨own, ρ, G, p⟩ := q
  refine stepAB G (fun ds vs H1 q s r => ?_) (fun e H1 q s => ?_) fun q => ?_
  · simp only [guardL, q, Res.bind] at p
    cases z : srtSD ds with
    | none => rw [z] at p; exact p.elim
    | some w =>
      rw [z] at p
      unfold srtSD at z
      split at z
      · rename_i ds'
        split at z
        · rename_i xs hx
          split at z
          · rename_i hl
            cases z
            obtain ⟨v, rfl, r1⟩ := r.one
            obtain ⟨a, ws, rfl, ha, ra⟩ := r1.lst_
            have ew := strs_of ra hx
            subst ew
            have sp := SStr.seen_spec (xs.map mkS)
            have l1 := sp.2.2
            rw [List.length_map] at l1
            have sl : (4000 : Nat) ≤ sizeLine := by decide
            have sb : (4096 : Nat) ≤ scanBound := by decide
            refine .inl ⟨a, xs.map mkS, rfl, .of ha, by rw [List.length_map]; omega, fun b hb => ?_⟩
            refine .inl ⟨b, SStr.seen (xs.map mkS), rfl, upd_same, by omega, fun c hc => ?_⟩
            have s2 : Same H1 (upd H1 b (SetSO X.w b (SStr.seen (xs.map mkS)))) := same_upd hb
            exact p _ _ _ _ (s.trans s2) hc rfl (.lst (reps_strs (sS (SStr.seen (xs.map mkS)))))
          · cases z
        · split at z
          · rename_i ns hx
            split at z
            · rename_i hl
              cases z
              obtain ⟨v, rfl, r1⟩ := r.one
              obtain ⟨a, ws, rfl, ha, ra⟩ := r1.lst_
              have ed := intsD_eq hx
              rw [ed] at ra
              have ew := ra.ints
              subst ew
              have sb : (4096 : Nat) ≤ scanBound := by decide
              refine .inr (.inr ⟨a, ns, rfl, .of ha, by omega, fun b hb => ?_⟩)
              refine .inr ⟨b, ns, rfl, upd_same, by omega, fun c hc => ?_⟩
              have s2 : Same H1 (upd H1 b (SetIO X.w b ns)) := same_upd hb
              exact p _ _ _ _ (s.trans s2) hc rfl (.lst (Reps.of_ints (sortI ns)))
            · cases z
          · cases z
      · rename_i ds'
        split at z
        · rename_i xs hx
          split at z
          · rename_i hl
            cases z
            obtain ⟨v, rfl, r1⟩ := r.one
            obtain ⟨a, ws, o, rfl, _, ha, _, ra⟩ := r1.tup_
            have ew := strs_of ra hx
            subst ew
            have sp := SStr.seen_spec (xs.map mkS)
            have l1 := sp.2.2
            rw [List.length_map] at l1
            have sl : (4000 : Nat) ≤ sizeLine := by decide
            have sb : (4096 : Nat) ≤ scanBound := by decide
            refine .inr (.inl ⟨a, xs.map mkS, rfl, .inl (.inr ⟨o, ha⟩), by rw [List.length_map]; omega, fun b hb => ?_⟩)
            refine .inl ⟨b, SStr.seen (xs.map mkS), rfl, upd_same, by omega, fun c hc => ?_⟩
            have s2 : Same H1 (upd H1 b (SetSO X.w b (SStr.seen (xs.map mkS)))) := same_upd hb
            exact p _ _ _ _ (s.trans s2) hc rfl (.lst (reps_strs (sS (SStr.seen (xs.map mkS)))))
          · cases z
        · cases z
      · cases z
  · simp only [guardL, q, Res.bind] at p
    exact p H1 s
  · simp only [guardL, q, Res.bind] at p
    exact p
theorem sndG (h : XOk X ck ec W Γ C) {c : Cd} {e : Expr} (fr : freshG c = true) (o : okE ck false c e = true) : PE X e (tF X.KK ck.lin (wsh ec W) fun ρ => guardL (ev Γ C c ρ)) := by
  cases c with
  | bin op a b =>
    cases e with
    | BinOp e1 oo e2 pos =>
      simp only [okE, Bool.and_eq_true, decide_eq_true_eq] at o
      obtain ⟨⟨o1, o2⟩, o3⟩ := o
      subst o1
      have p1 := sndE a true e1 h o2
      have p2 := sndE b true e2 h o3
      cases op with
      | add => exact (pe_op op_adds p1 p2).imp fun _ _ _ q => addL_F (by simp only [ev] at q; exact q)
      | mul => exact (pe_op op_muls p1 p2).imp fun _ _ _ q => mulL_F (by simp only [ev] at q; exact q)
      | _ => cases fr
    | _ => exact Bool.noConfusion o
  | «bif» b xs =>
    cases b with
    | list =>
      cases e with
      | Call f es ks pos =>
        cases f with
        | Name x p =>
          match es, ks, o with
          | [], [], o => simp [okE] at o
          | e1 :: es, [], o =>
            simp only [okE, Bool.and_eq_true, decide_eq_true_eq] at o
            obtain ⟨⟨⟨o1, o2⟩, o3⟩, _⟩ := o
            exact (bif_pe h .list o1 o2 (okBs_plain o3) (evs_of h xs _ o3).pa).imp fun _ _ _ q => callL_F listL (by simp only [ev] at q; exact q)
          | _, _ :: _, o => simp [okE] at o
        | _ => exact Bool.noConfusion o
      | _ => exact Bool.noConfusion o
    | _ => cases fr
  | xop op xs =>
    unfold okE at o
    cases q : xSyn ck op e with
    | none => rw [q] at o; exact Bool.noConfusion o
    | some es =>
      rw [q] at o
      have o : okBs ck xs es = true := o
      have a := evs_of h xs es o
      cases op with
      | sorted =>
        obtain ⟨b, p, pos, rfl, rfl, g⟩ := syn_sorted q
        obtain ⟨c, ec, pe, pl⟩ := a.one
        exact (call1_pe h (v := .builtin "sorted") (.inl rfl) (cr_srt h.units h.calm) g (by decide) (by decide +kernel) pl a.pa).imp fun σ H Q z => callL_F srtL (by simp only [ev] at z; exact z)
      | srtS =>
        obtain ⟨b, p, p2, pos2, pos, rfl, rfl, g1, g2⟩ := syn_srtS q
        obtain ⟨c, ec, pe, pl⟩ := a.one
        have inner := call1_pe h (v := .type "set") (.inr rfl) (cr_setA h.calm) g2 (by decide) (by decide +kernel) pl a.pa (p := p2) (pos := pos2)
        exact (call1_pe h (v := .builtin "sorted") (.inl rfl) (cr_srtA h.units h.calm) g1 (by decide) (by decide +kernel) rfl (pa_cons inner pa_nil (star_plain rfl _ _))).imp fun σ H Q z => srtS_F (by simp only [ev] at z; exact z)
      | lstS =>
        obtain ⟨b, p, pos, rfl, rfl, g⟩ := syn_lstS q
        obtain ⟨c, ec, pe, pl⟩ := a.one
        exact (call1_pe h (v := .type "list") (.inr rfl) (cr_lstS h.calm) g (by decide) (by decide +kernel) pl a.pa).imp fun σ H Q z => callL_F lstSL (by simp only [ev] at z; exact z)
      | _ => cases fr
  | _ => cases fr
theorem set_G (h : XS X ck ec W Γ C exs) {i : Nat} {x : Str} {c : Cd} {e : Expr} {p pos : Pos} (hi : ck.N[i]? = some x) (hx : locOk ck x = true) (fr : freshG c = true) (o : okE ck false c e = true) (hc : noComp e = true) :
    PS X (.Assign [.Name x p] e pos) (tAsg (tF X.KK ck.lin (wsh ec W) fun ρ => guardL (ev Γ C c ρ)) (gName i)) :=
  ps_set h.ok.nd (h.ix hi) (h.loc hx) (sndG h.ok fr o) (swFalse hc _ _ _) (.inl (h.fnt _))
theorem set_lc (h : XS X ck ec W Γ C exs) {i : Nat} {x : Str} {c : Cd} {elt : Expr} {gens : List Comprehension} {scope : Scope} {p pos pos2 : Pos} (hi : ck.N[i]? = some x) (hx : locOk ck x = true) (o : okE ck false c (.ListComp elt gens scope pos2) = true) (od : noD c = true) :
    PS X (.Assign [.Name x p] (.ListComp elt gens scope pos2) pos) (tAsg (tF X.KK ck.lin (wsh ec W) (ev Γ C c)) (gName i)) := by
  cases c with
  | lc own tg it c el =>
    have pf := sndF h.ok (c := .lc own tg it c el) rfl o
    obtain ⟨target, iter, ifs, ow, tt, rfl, pi, bk, pg, pt, pe, fo, im⟩ := lc_parts h.ok o
    have hk : X.env.scope.kind = .function := by rw [h.ok.sc]; exact h.kind
    have hsw := sw_lc (elt := elt) (gs := [⟨target, iter, ifs, 0⟩]) (scope := scope) (pos := pos2) (py := p) (y := x) (l := pos.line) hk
    cases q : ((X.env.scope.names.lookup x == some .local) && (p.line == pos2.line) && !(scope.names.any fun (n, k) => n == x && (k == .local || k == .cell))) with
    | false =>
      rw [q] at hsw
      exact ps_set h.ok.nd (h.ix hi) (h.loc hx) pf hsw (.inl (h.fnt _))
    | true =>
      rw [q] at hsw
      simp only [Bool.and_eq_true, beq_iff_eq] at q
      exact (ps_setLcx (te := fun W0 => tE X.KK ck.lin (wsh ec W0) (ev Γ C el)) h.ok.tk h.ok.calm h.ok.nd (h.ix hi) q.1.1 hsw pi bk pg pt pe fo).imp fun DE σ H z => im _ _ _ z
  | lcD _ _ _ _ _ => cases od
  | xop op xs => cases op <;> exact Bool.noConfusion o
  | _ => exact Bool.noConfusion o
theorem set_E (h : XS X ck ec W Γ C exs) {i : Nat} {x : Str} {c : Cd} {e : Expr} {p pos : Pos} (hi : ck.N[i]? = some x) (hx : locOk ck x = true) (o : okE ck false c e = true) (od : noD c = true) (hc : (noComp e || isLc e) = true) :
    PS X (.Assign [.Name x p] e pos) (tAsg (tE X.KK ck.lin (wsh ec W) (ev Γ C c)) (gName i)) := by
  cases q : noComp e with
  | true => exact ps_set h.ok.nd (h.ix hi) (h.loc hx) (sndE c false e h.ok o) (swFalse q _ _ _) (.inl (h.fnt _))
  | false =>
    rw [q] at hc
    cases e with
    | ListComp elt gens scope pos2 => exact (set_lc h hi hx o od).imp fun DE σ H z => tF_tE z
    | _ => cases hc
theorem set_F (h : XS X ck ec W Γ C exs) {i : Nat} {x : Str} {c : Cd} {e : Expr} {p pos : Pos} (hi : ck.N[i]? = some x) (hx : locOk ck x = true) (fr : fresh c = true) (o : okE ck false c e = true) (hc : (noComp e || isLc e) = true) :
    PS X (.Assign [.Name x p] e pos) (tAsg (tF X.KK ck.lin (wsh ec W) (ev Γ C c)) (gName i)) := by
  cases q : noComp e with
  | true => exact ps_set h.ok.nd (h.ix hi) (h.loc hx) (sndF h.ok fr o) (swFalse q _ _ _) (.inl (h.fnt _))
  | false =>
    rw [q] at hc
    cases e with
    | ListComp elt gens scope pos2 => exact set_lc h hi hx o (by cases c <;> first | rfl | cases fr)
    | _ => cases hc
theorem sw_par {x y : Str} {px py p1 p2 : Pos} {k1 k2} {a b : Expr} (hk : X.env.scope.kind = .function) (hs : X.env.scope = ck.sc) (o : parOk ck x y px py a b = true) :
    swappedStores [.Tuple [.Name x px, .Name y py] k1 p1] (.Tuple [a, b] k2 p2) X.env = pure (some [x, y]) := by
  have hb : X.env.blockKind = .function := by unfold Env.blockKind; rw [hk]; rfl
  unfold parOk at o
  rw [← hs] at o
  simp only [Bool.and_eq_true, decide_eq_true_eq, Bool.not_eq_true', beq_iff_eq] at o
  obtain ⟨⟨⟨⟨⟨⟨⟨o1, o2⟩, o3⟩, o4⟩, o5⟩, o6⟩, o7⟩, o8⟩ := o
  have k1 : X.env.kindOf x = some .local := o1
  have k2 : X.env.kindOf y = some .local := o2
  have ne : x ≠ y := fun z => by rw [z] at o4; simp at o4
  have na : ([a, b].any fun | .Starred .. => true | _ => false) = false := by
    cases a <;> first
      | exact Bool.noConfusion o5
      | (cases b <;> first | exact Bool.noConfusion o6 | rfl)
  unfold swappedStores
  simp [hb, k1, k2, o3, o7, o8, na, Expr.pos, ne, Ne.symm ne, List.eraseDups_cons]
  intro z
  simp only [List.any_cons, List.any_nil, Bool.or_false, Bool.or_eq_false_iff] at na
  rcases z with z | z
  · exact Bool.noConfusion (z.symm.trans na.1)
  · exact Bool.noConfusion (z.symm.trans na.2)
end
end PLq
namespace PLq
open PySem L2
theorem pe_callE {X : Cx} {pt : Addr × Obj} {k : Nat} {f : Addr} {fd : FuncData} {ps : List Str} {sp : Addr × Obj → VK → Hp → Prop} {x : Str} {e : Expr} {ta : TE} {q pos : Pos}
    (F : FnE X.prog X.w X.KK X.mg X.base k f fd ps sp) (hr : L2H.RoomH k X.A) (hp : pt ∈ X.pn) (hg : Gl X x) (hm : X.mg x = some (.ref f)) (hk : PySem.W.keepIn X.KK (.ref f) = true) (hb : Binds X.KK fd ps []) (ha : PE X e ta)
    (hdb : (x == ("__debug__" : Str)) = false) (he : starEach [e] X.env = (false, eval e X.env) :: starEach [] X.env) (hpl : (backTo pos (starEach [] X.env)).any (·.1) = false := by rfl) :
    PE X (.Call (.Name x q) [e] [] pos) (fun σ H Q => ta σ H fun v H1 => v = .ref pt.1 ∧ sp pt Q H1) := by
  refine ⟨fun pins s σ H Q I h => ?_⟩
  refine wpAny_Call_Name_kw (ld_glob I hg hm ?_ hdb)
  have pa := pa_cons ha pa_nil he
  refine PySem.W.callWith_K (h₀ := X.base) I.ok.mod.kin hk (thn (pa.run pos pins s σ H (fun vs H1 => match vs with
    | [v] => v = V.ref pt.1 ∧ sp pt Q H1
    | _ => False) I h) fun us s1 ⟨vs, H1, I1, r, q⟩ => ⟨I1.kIn, ?_⟩) he hpl
  · match vs, q, r with
    | [v], q, .cons r1 .nil =>
      obtain ⟨rfl, q⟩ := q
      cases r1
      have P1 := I1.pin pt (List.mem_append_left _ hp)
      have hpin : L2H.PinOk X.stack H1 s1 pt := ⟨P1.1, P1.2.1, fun hm => (List.mem_cons.mp (I1.stkSub pt.1 hm)).elim P1.2.2.1 P1.2.2.2.1, P1.2.2.2.2⟩
      have b := hb s1 [.ref pt.1] I1.kIn (by rw [List.append_nil]; exact F.one.symm)
      rw [List.append_nil] at b
      refine wpAny_call (codeAny_mono (F.run X.A X.stack s1 H1 ⟨[.ref pt.1], []⟩ pt Q hr hpin I1.env0 b q) fun r s' hq => ?_)
      cases r with
      | error e =>
        obtain ⟨_, _, _, _, _, _, _, _, _, _, _, _, z⟩ := hq
        exact z.elim
      | ok fl =>
        cases fl with
        | ret u => exact I1.after hq
        | next => exact False.elim hq
        | brk => exact False.elim hq
        | cont => exact False.elim hq
theorem pss_len {X : Cx} {ss : List Stmt} {t : TS} (h : PSs X ss t) : PSs X ss (fun D σ H => σ.length = X.N.length → t D σ H) := ⟨fun pins s σ H D I q => h.run pins s σ H D I (q I.len)⟩
section
variable {K : KK} {lin : List Nat} {Wo W' : Wsh} {DE : Ends} {σ : L2.St} {H : Hp}
theorem tryX_S {f : Env → Out} {ls : List Nat} {d : TrD} (hl : ∀ i ∈ lin, i ∈ ls)
    (hno : ∀ e σ' H', e ∈ d.es → caught d.m e = false → Wo e σ' H' → W' e σ' H')
    (hyes : ∀ e dd σ' H' own, e ∈ d.es → caught d.m e = true → d.h.out e = .ret dd → (∀ a, a ∈ own → ∃ o, H' a = some o) → (∀ v H'', Same H' H'' → Rep K (hid own H'') v dd → DE.rt v H'') → W' e σ' H')
    (h : tS K lin Wo (fun ρ => if ls.all (emptyAt ρ) then catchO d (f ρ) else .stuck) DE σ H) : tS K lin W' f DE σ H := by
  obtain ⟨H0, own0, B, own, ρ, g, p⟩ := h
  have em : ls.all (emptyAt ρ) = true := by
    cases z : ls.all (emptyAt ρ) with
    | true => rfl
    | false => simp only [z] at p; exact p.elim
  have em' : ∀ i ∈ lin, ∀ d, ρ[i]? ≠ some (some d) := fun i hi d e => by
    have := List.all_eq_true.mp em i (hl i hi)
    unfold emptyAt at this
    rw [e] at this; cases this
  simp only [em, if_true] at p
  refine ⟨H, own, hid own H, own, ρ, ⟨g.gd, fun a h => h, g.gd.trk, Same.refl _, fun i a d hi hd _ => absurd hd (em' i hi d), Same.refl _⟩, ?_⟩
  have up : ∀ {own' : List Addr} {σ' : L2.St} {H' : Hp} {ρ' : Env}, OkS K H own (hid own H) lin own' σ' H' ρ' → OkS K H0 own0 B lin own' σ' H' ρ' := fun {own' σ' H' ρ'} g' =>
    ⟨g'.gd, fun a ha => g'.sub a (g.sub a ha), g.trk0, g.same.trans g'.same, fun i a d hi hd hs => Same.free g.same (g'.new i a d hi hd hs), g.safe.trans g'.safe⟩
  have upR : ∀ {own' : List Addr} {H' : Hp}, OkR H own (hid own H) own' H' → OkR H0 own0 B own' H' := fun {own' H'} g' =>
    ⟨fun a ha => g'.sub a (g.sub a ha), g.same.trans g'.same, g.safe.trans g'.safe⟩
  cases q : f ρ with
  | nx ρ' =>
    rw [q] at p
    exact fun own' σ' H' g' => p own' σ' H' (up g')
  | ret dd =>
    rw [q] at p
    exact fun own' v H' g' r => p own' v H' (upR g') r
  | stuck => rw [q] at p; exact p
  | exc e =>
    rw [q] at p
    simp only [catchO] at p
    by_cases he : e ∈ d.es
    · rw [if_pos he] at p
      cases c : caught d.m e with
      | false =>
        rw [c, if_neg Bool.false_ne_true] at p
        exact fun σ' H' s => hno e σ' H' he c (p σ' H' (g.same.trans s))
      | true =>
        rw [c, if_pos rfl] at p
        cases z : d.h.out e with
        | ret dd =>
          rw [z] at p
          exact fun σ' H' s => hyes e dd σ' H' own he c z (fun a ha => let ⟨o, q⟩ := g.gd.trk a ha; ⟨o, s _ _ q⟩) fun v H'' s' r => p own v H'' ⟨g.sub, g.same.trans (s.trans s'), g.safe.trans (hid_same (s.trans s'))⟩ r
        | stuck => rw [z] at p; exact p.elim
        | nx ρ' =>
          have : ∀ h : Hd, ∀ ρ', h.out e ≠ .nx ρ' := fun h ρ' => by
            cases h with
            | ref i f l =>
              intro z
              by_cases hm : e ∈ l
              · simp [Hd.out, hm] at z
              · simp [Hd.out, hm] at z
            | non => exact fun z => by cases z
          exact absurd z (this _ _)
        | exc x =>
          have : ∀ h : Hd, h.out e ≠ .exc x := fun h => by
            cases h with
            | ref i f l =>
              intro z
              by_cases hm : e ∈ l
              · simp [Hd.out, hm] at z
              · simp [Hd.out, hm] at z
            | non => exact fun z => by cases z
          exact absurd z (this _)
    · rw [if_neg he] at p
      exact p.elim
end
section
variable {X : Cx} {ck : Ck} {ec : Ex → Addr} {W : WX} {Γ : Tbl} {C : Cns} {exs : List Ex}
theorem XS.tr_ (h : XS X ck ec W Γ C exs) {W' : WX} {pn : List (Addr × Obj)} {xe : Value → Shared → Prop} (tk : Takes (X.tr pn xe) W') (po : PassesOwn (model X.prog X.w) X.A X.env xe) : XS (X.tr pn xe) ck ec W' Γ C exs where
  ok := ⟨h.ok.N, h.ok.sc, h.ok.nd, h.ok.calm, h.ok.units, h.ok.fs, h.ok.fn, h.ok.cs, h.ok.cn, h.ok.free, Tk.of h.hs h.hf tk⟩
  po := po
  fnt := h.fnt
  kind := h.kind
  rs := h.rs
  hs := h.hs
  hf := h.hf
  tr := h.tr
  ta := tk
theorem try_ps (h : XS X ck ec W Γ C exs) {body : List Stmt} {f : PLq.Env → Out} {ls : List Nat} {d : TrD} {x : Str} {n : Option Str} {hb : List Stmt} {np p1 pos : Pos}
    (hbody : ∀ (W' : WX) (pn : List (Addr × Obj)) (xe : Value → Shared → Prop), XS (X.tr pn xe) ck ec W' Γ C exs → PSs (X.tr pn xe) body (tS X.KK ck.lin (wsh ec W') f))
    (o1 : x = catNm d.m) (o2 : ck.glob x = true) (o3 : ck.lin.all (fun i => ls.contains i) = true) (o4 : ck.trs.contains d = true) (o5 : okHd ck d.h n hb = true) :
    PS X (.Try body [.ExceptHandler (some (.Name x np)) n hb p1] [] [] pos) (tS X.KK ck.lin (wsh ec W) fun ρ => if ls.all (emptyAt ρ) then catchO d (f ρ) else .stuck) := by
  obtain ⟨k, T, hr⟩ := h.tr d (List.contains_iff_mem.mp o4)
  obtain ⟨c, hc, hx⟩ := T.c
  obtain ⟨g1, g2, g3⟩ := h.ok.gl o2
  subst o1
  have nms : Names X (catNm d.m) (.ref c) := ⟨g1, g2, .inl hc⟩
  have hl : ∀ i ∈ ck.lin, i ∈ ls := fun i hi => List.contains_iff_mem.mp (List.all_eq_true.mp o3 i hi)
  have hd := T.h
  cases z : d.h with
  | non =>
    rw [z] at o5
    unfold okHd at o5
    split at o5
    · contradiction
    · rename_i z1
      cases z1
      refine (ps_try_only (pos := pos) (np := np) (pos' := p1) h.hs h.hf nms h.ta (fun W' pn xe tk po => hbody W' pn xe (h.tr_ tk po)) (ts := fun _ _ _ => tRet (tC .non)) fun a oe cls dd pn hz hf => pss_one (ps_ret pe_non)).imp fun D σ H q => ?_
      refine tryX_S hl (fun e σ' H' he hc w => ?_) (fun e dd σ' H' own he hc ho tr hq => ?_) q
      · exact ⟨false, by rw [hx e he, hc], (fun z => by cases z), fun _ => w⟩
      · refine ⟨true, by rw [hx e he, hc], fun _ a na => ?_, fun z => by cases z⟩
        rw [z] at ho
        cases ho
        exact hq .non H' (Same.refl _) .non
    · exact Bool.noConfusion o5
  | ref i fn l =>
    rw [z] at o5 hd
    obtain ⟨⟨fa, fd, ps, F, hm, hk, hbn⟩, hfl⟩ := hd
    unfold okHd at o5
    split at o5
    · rename_i i' f' l' n' g q1 y q2 q3 q4 hz'
      cases hz'
      simp only [Bool.and_eq_true, decide_eq_true_eq, Bool.not_eq_true'] at o5
      obtain ⟨⟨⟨⟨⟨⟨rfl, o5⟩, rfl⟩, o6⟩, o7⟩, o8⟩, o9⟩ := o5
      obtain ⟨k1, k2, k3⟩ := h.ok.gl o5
      have hi : X.N[i]? = some y := by rw [h.ok.N]; exact o6
      have hln : X.env.kindOf y = some .local := by show X.env.scope.names.lookup y = _; rw [h.ok.sc]; exact o7
      have hlt : i < X.N.length := (List.getElem?_eq_some_iff.mp hi).1
      refine (ps_try_as (pos := pos) (np := np) (pos' := p1) (i := i) h.hs h.hf h.ok.nd hi hln nms h.ta (fun W' pn xe tk po => hbody W' pn xe (h.tr_ tk po))
        (ts := fun a cls dd => fun D σ H => σ.length = X.N.length → ∃ e, e ∈ l ∧ cls = .ref (ec e) ∧ dd = none ∧ σ[i]? = some (some (.ref a)) ∧ ∀ H' q o, Same H H' → H q = none → H' q = some (.frz o (.tup [.str (mkS refT), .int (l.idxOf e : Nat)])) → o.dict = none → D.rt (.ref q) H')
        fun a oe cls dd pn hz hf => ?_).imp fun D σ H q => ?_
      · by_cases hh : ∃ e, e ∈ l ∧ cls = .ref (ec e) ∧ dd = none
        · obtain ⟨e, he, rfl, rfl⟩ := hh
          have pv : PE (X.suite a ((a, oe) :: pn)) (.Name y q2) (tVar i) := pe_var hi (.inl hln) o8 o9
          have pc := pe_callE (X := X.suite a ((a, oe) :: pn)) (pt := (a, oe)) (pos := q3) (q := q1) F ⟨hr.dp, hr.un⟩ List.mem_cons_self k1 hm hk hbn pv k2 rfl
          refine (pss_len (pss_one (ps_ret (pos := q4) pc))).imp fun D σ H w hlen => ?_
          obtain ⟨e', he', ee, _, h1, h2⟩ := w hlen
          have ei : Value.ref (ec e) = .ref (ec e') := ee
          refine ⟨_, h1, rfl, e', l.idxOf e', he', hfl e' he', ?_, hf, h2⟩
          rw [← ei]; exact hz
        · refine (pss_len (neverS (X.suite a ((a, oe) :: pn)) _)).imp fun D σ H w hlen => ?_
          obtain ⟨e, he, h1, h2, _⟩ := w hlen
          exact hh ⟨e, he, h1, h2⟩
      · refine tryX_S hl (fun e σ' H' he hc w => ?_) (fun e dd σ' H' own he hc ho tr hq => ?_) q
        · exact ⟨false, by rw [hx e he, hc], (fun z => by cases z), fun _ => w⟩
        · refine ⟨true, by rw [hx e he, hc], fun _ a na hlen => ?_, fun z => by cases z⟩
          rw [z] at ho
          by_cases hel : e ∈ l
          · simp only [Hd.out, if_pos hel] at ho
            cases ho
            refine ⟨e, hel, rfl, rfl, List.getElem?_set_self (by rw [List.length_set] at hlen; omega), fun H'' q o s hn hq' od => ?_⟩
            refine hq (.ref q) H'' s ?_
            have nq : q ∉ own := fun hm => by
              obtain ⟨o', e'⟩ := tr q hm
              rw [hn] at e'; cases e'
            exact .tup (hid_of nq hq') od (.cons (.str refT) (.cons (.int _) .nil))
          · simp only [Hd.out, if_neg hel] at ho
            cases ho
    · rename_i h1
      cases h1
    · exact Bool.noConfusion o5
end
end PLq
namespace PLq
open PySem L2
open RZ (ItzT iZipA pi_zipA)
section
variable {K : KK} {lin : List Nat} {W : Wsh} {DE : Ends} {σ : L2.St} {H : Hp}
theorem set_S {f : Env → Res D} {i : Nat} (hl : i ∉ lin) (h : tS K lin W (fun ρ => resO (f ρ) fun d => .nx (ρ.set i (some d))) DE σ H) : tAsg (tE K lin W f) (gName i) DE σ H := by
  obtain ⟨H0, own0, B, own, ρ, g, p⟩ := h
  exact ⟨own, ρ, g.gd, postS_E g p fun d v H' q pp s r => pp _ _ _ ((g.mono s).set r hl)⟩
theorem OkS.setF' {H0 : Hp} {own0 : List Addr} {B : Hp} {own : List Addr} {ρ : Env} {i : Nat} {a : Addr} {o : HO} {d : D} {H' : Hp} (g : OkS K H0 own0 B lin own σ H ρ) (hn : H a = none) (e : H' = upd H a o) (r : RepO K (hid own H) a o d) (hl : i ∈ lin) :
    OkS K H0 own0 B lin (a :: own) (σ.set i (some (.ref a))) H' (ρ.set i (some d)) := by
  by_cases hi : i < σ.length
  · exact g.setF hn e r hl hi
  · rw [List.set_eq_of_length_le (by omega), List.set_eq_of_length_le (by rw [g.gd.len]; omega)]
    subst e
    exact ⟨g.gd.more hn (same_upd hn) upd_same, fun b hb => List.mem_cons_of_mem _ (g.sub b hb), g.trk0, g.same.trans (same_upd hn), g.new, g.safe.trans (hid_more hn (same_upd hn))⟩
theorem setF_S {f : Env → Res D} {i : Nat} (hl : i ∈ lin) (h : tS K lin W (fun ρ => resO (f ρ) fun d => .nx (ρ.set i (some d))) DE σ H) : tAsg (tF K lin W f) (gName i) DE σ H := by
  obtain ⟨H0, own0, B, own, ρ, g, p⟩ := h
  refine ⟨own, ρ, g.gd, ?_⟩
  cases q : f ρ with
  | ok d =>
    simp only [q, resO] at p
    exact fun a o H' H2 s hn e r => p _ _ _ ((g.mono s).setF' hn e r hl)
  | exc e => simp only [q, resO] at p; exact fun H' s => p σ H' (g.same.trans s)
  | stuck => simp only [q, resO] at p; exact p
theorem unp_S {f : Env → Res D} {tg : Tg} (hf : tgFree lin tg) (h : tS K lin W (fun ρ => resO (f ρ) fun d => match assignTg tg d ρ with | some ρ1 => .nx ρ1 | none => .stuck) DE σ H) : tAsg (tE K lin W f) (rdTg K tg) DE σ H := by
  obtain ⟨H0, own0, B, own, ρ, g, p⟩ := h
  refine ⟨own, ρ, g.gd, postS_E g p fun d v H' q pp s r => ?_⟩
  cases z : assignTg tg d ρ with
  | none => rw [z] at pp; exact pp.elim
  | some ρ1 =>
    rw [z] at pp
    exact tg_rep tg hf (g.gd.mono s) r z fun σ1 g1 s1 => pp _ _ _ ((g.mono s).tg hf g1 s1 fun j hj => assign_ne tg hf z j hj)
theorem unp3_S {f : Env → Res D} {i j k : Nat} (hi : i ∉ lin) (hj : j ∉ lin) (hk : k ∉ lin) (h : tS K lin W (fun ρ => resO (f ρ) fun d => match d with | .lst [x, y, z] => .nx (((ρ.set i (some x)).set j (some y)).set k (some z)) | _ => .stuck) DE σ H) :
    tAsg (tE K lin W f) (gLst K 3 (gCons (gName i) (gCons (gName j) (gCons (gName k) gNil)))) DE σ H := by
  obtain ⟨H0, own0, B, own, ρ, g, p⟩ := h
  refine ⟨own, ρ, g.gd, postS_E g p fun d v H' q pp s r => ?_⟩
  cases d with
  | lst ds =>
    match ds, pp, r with
    | [x, y, z], pp, r =>
      cases r with
      | lst ha ra =>
        cases ra with
        | cons r1 t1 =>
          cases t1 with
          | cons r2 t2 =>
            cases t2 with
            | cons r3 t3 =>
              cases t3
              exact ⟨_, _, rfl, .of (hid_le _ _ _ _ ha), rfl, _, _, rfl, _, _, rfl, _, _, rfl, rfl, pp own _ _ ((((g.mono s).set r1 hi).set r2 hj).set r3 hk)⟩
    | [], pp, r => exact pp.elim
    | [_], pp, r => exact pp.elim
    | [_, _], pp, r => exact pp.elim
    | _ :: _ :: _ :: _ :: _, pp, r => exact pp.elim
  | _ => exact pp.elim
theorem par_S {f k : Env → Res D} {i j : Nat} (hi : i ∉ lin) (hj : j ∉ lin) (h : tS K lin W (fun ρ => resO (f ρ) fun x => resO (k ρ) fun y => .nx ((ρ.set i (some x)).set j (some y))) DE σ H) :
    tPar i j (tCons (tE K lin W f) (tCons (tE K lin W k) tNil)) DE σ H := by
  obtain ⟨H0, own0, B, own, ρ, g, p⟩ := h
  refine ⟨own, ρ, g.gd, postS_E g p fun x v H1 q1 p1 s1 r1 => ⟨own, ρ, g.gd.mono s1, postS_E (g.mono s1) p1 fun y w H2 q2 p2 s2 r2 => ⟨v, w, rfl, p2 own _ _ ?_⟩⟩⟩
  exact ((((g.mono s1).mono s2).set (r1.mono (hid_same s2)) hi)).set r2 hj
theorem ret_S {f : Env → Res D} (h : tS K lin W (fun ρ => resO (f ρ) fun d => .ret d) DE σ H) : tRet (tE K lin W f) DE σ H := by
  obtain ⟨H0, own0, B, own, ρ, g, p⟩ := h
  exact ⟨own, ρ, g.gd, postS_E g p fun d v H' q pp s r => pp _ _ _ (g.mono s).r r⟩
theorem retL_S {i : Nat} (hl : i ∈ lin) (h : tS K lin W (fun ρ => match ρ[i]? with | some (some d) => .ret d | _ => .stuck) DE σ H) : tRet (tVar i) DE σ H := by
  obtain ⟨H0, own0, B, own, ρ, g, p⟩ := h
  cases q : ρ[i]? with
  | none => simp only [q] at p; exact p.elim
  | some z =>
    cases z with
    | none => simp only [q] at p; exact p.elim
    | some d =>
      simp only [q] at p
      obtain ⟨a, o, h1, h2, h3, h4⟩ := g.gd.lob i d q hl
      have sub : ∀ b, b ∈ own.filter (fun b => b ≠ a) → b ∈ own := fun b hb => (List.mem_filter.mp hb).1
      refine ⟨_, h1, p (own.filter fun b => b ≠ a) _ H ⟨fun b hb => ?_, g.same, g.safe.trans (hid_sub sub)⟩ ?_⟩
      · refine List.mem_filter.mpr ⟨g.sub b hb, ?_⟩
        have ne : b ≠ a := fun z => by
          subst z
          obtain ⟨ob, e⟩ := g.trk0 b hb
          rw [g.new i b d hl q h1] at e; cases e
        simp [ne]
      · exact (h4.mono (hid_sub sub)).rep (hid_of (fun z => by simpa using (List.mem_filter.mp z).2) h3)
theorem expr_S {f : Env → Res D} (h : tS K lin W (fun ρ => resO (f ρ) fun _ => .nx ρ) DE σ H) : tDrop (tE K lin W f) DE σ H := by
  obtain ⟨H0, own0, B, own, ρ, g, p⟩ := h
  exact ⟨own, ρ, g.gd, postS_E g p fun d v H' q pp s r => pp _ _ _ (g.mono s)⟩
theorem OkS.upd {H0 : Hp} {own0 : List Addr} {B : Hp} {own : List Addr} {ρ : Env} {i : Nat} {a : Addr} {o : HO} {d d0 : D} (g : OkS K H0 own0 B lin own σ H ρ) (hl : i ∈ lin) (hs : σ[i]? = some (some (.ref a))) (ha : a ∈ own) (hρ : ρ[i]? = some (some d0)) (r : RepO K (hid own H) a o d) :
    OkS K H0 own0 B lin own σ (L2.upd H a o) (ρ.set i (some d)) := by
  have hi : i < ρ.length := by
    by_cases h : i < ρ.length
    · exact h
    · rw [List.getElem?_eq_none (by omega)] at hρ; cases hρ
  refine ⟨⟨by rw [List.length_set]; exact g.gd.len, fun j e h hj => ?_, fun j e h hj => ?_, fun j k b e1 e2 hj hk h1 h2 h3 h4 => ?_, fun b hb => ?_⟩, g.sub, g.trk0, fun b ob hb => ?_, fun j b e hj hr h => ?_, ?_⟩
  · have q : i ≠ j := fun z => hj (z ▸ hl)
    rw [List.getElem?_set_ne q] at h
    rw [hid_upd ha]
    exact g.gd.val j e h hj
  · by_cases q : i = j
    · subst q
      rw [List.getElem?_set_self hi] at h
      cases h
      exact ⟨a, o, hs, ha, upd_same, by rw [hid_upd ha]; exact r⟩
    · rw [List.getElem?_set_ne q] at h
      obtain ⟨b, ob, h1, h2, h3, h4⟩ := g.gd.lob j e h hj
      have ne : b ≠ a := fun z => q (g.gd.sep i j a d0 e hl hj hρ h hs (z ▸ h1))
      exact ⟨b, ob, h1, h2, by rw [upd_ne ne]; exact h3, by rw [hid_upd ha]; exact h4⟩
  · have get : ∀ {m e}, (ρ.set i (some d))[m]? = some (some e) → ∃ e', ρ[m]? = some (some e') := fun {m e} hm => by
      by_cases q : i = m
      · subst q; exact ⟨_, hρ⟩
      · rw [List.getElem?_set_ne q] at hm; exact ⟨_, hm⟩
    obtain ⟨e1', h1⟩ := get h1
    obtain ⟨e2', h2⟩ := get h2
    exact g.gd.sep j k b e1' e2' hj hk h1 h2 h3 h4
  · by_cases q : b = a
    · subst q; exact ⟨o, upd_same⟩
    · obtain ⟨o', z⟩ := g.gd.trk b hb
      exact ⟨o', by rw [upd_ne q]; exact z⟩
  · have ne : b ≠ a := fun z => by
      subst z
      rw [g.new i b d0 hl hρ hs] at hb; cases hb
    rw [upd_ne ne]
    exact g.same b ob hb
  · by_cases q : i = j
    · subst q; exact g.new i b d0 hl hρ h
    · rw [List.getElem?_set_ne q] at hr
      exact g.new j b e hj hr h
  · rw [hid_upd ha]; exact g.safe
theorem app_S {f : Env → Res D} {i : Nat} (hl : i ∈ lin) (h : tS K lin W (fun ρ => match ρ[i]? with
      | some (some (.lst xs)) => resO (f ρ) fun d => if xs.length < szL then .nx (ρ.set i (some (.lst (xs ++ [d])))) else .stuck
      | _ => .stuck) DE σ H) : tDrop (tBM K "list" rAppend (tVar i) (tCons (tE K lin W f) tNil)) DE σ H := by
  obtain ⟨H0, own0, B, own, ρ, g, p⟩ := h
  cases q : ρ[i]? with
  | none => simp only [q] at p; exact p.elim
  | some z =>
    cases z with
    | none => simp only [q] at p; exact p.elim
    | some d =>
      cases d with
      | lst xs =>
        simp only [q] at p
        obtain ⟨a, o, h1, h2, h3, h4⟩ := g.gd.lob i _ q hl
        cases h4 with
        | lst rr =>
          rename_i vs
          refine ⟨_, h1, .inl ⟨rfl, vs, .of h3⟩, own, ρ, g.gd, postS_E g p fun d v H' q' pp s r => ?_⟩
          by_cases hs : xs.length < szL
          · rw [if_pos hs] at pp
            refine ⟨a, vs, v, rfl, rfl, s _ _ h3, by rw [rr.length, ← szL_eq]; exact hs, pp own _ _ ?_⟩
            exact (g.mono s).upd hl h1 h2 q (.lst ((rr.mono (hid_same s)).app (.cons r .nil)))
          · rw [if_neg hs] at pp; exact pp.elim
      | _ => simp only [q] at p; exact p.elim
def rSets (P : Program) (w : World) : TSet := fun o i v H Q => rSetL o i v H Q ∨ rSetD o i v H Q ∨ rSetTK P w o i v H Q
theorem set_any {X : Cx} (hu : X.A.units + 1 < cLine) : PSet X (rSets X.prog X.w) := fun pins s σ H o i v ov iv u Q I r1 r2 r3 h => h.elim (set_list pins s σ H o i v ov iv u Q I r1 r2 r3) fun h => h.elim (set_dict hu pins s σ H o i v ov iv u Q I r1 r2 r3) (set_TK hu pins s σ H o i v ov iv u Q I r1 r2 r3)
theorem put_S {f k : Env → Res D} {i : Nat} (hl : i ∈ lin) (h : tS K lin W (fun ρ => match ρ[i]? with
      | some (some o) => resO (f ρ) fun y => resO (k ρ) fun x => (match putO o x y with
        | some o2 => .nx (ρ.set i (some o2))
        | none => .stuck)
      | _ => .stuck) DE σ H) : tAsg (tE K lin W f) (gSub (tVar i) (tE K lin W k) (rSets K.P K.w)) DE σ H := by
  obtain ⟨H0, own0, B, own, ρ, g, p⟩ := h
  cases q : ρ[i]? with
  | none => simp only [q] at p; exact p.elim
  | some z =>
    cases z with
    | none => simp only [q] at p; exact p.elim
    | some d0 =>
      simp only [q] at p
      refine ⟨own, ρ, g.gd, postS_E g p fun y v H1 q1 p1 s1 r1 => ?_⟩
      obtain ⟨a, o, h1, h2, h3, h4⟩ := g.gd.lob i _ q hl
      refine ⟨_, h1, own, ρ, g.gd.mono s1, postS_E (g.mono s1) p1 fun x w H2 q2 p2 s2 r2 => ?_⟩
      have s12 := s1.trans s2
      have r1 := r1.mono (hid_same s2)
      cases z : putO d0 x y with
      | none => rw [z] at p2; exact p2.elim
      | some o2 =>
        rw [z] at p2
        cases h4 with
        | lst rr =>
          cases x with
          | int n =>
            simp only [putO, Option.map_eq_some_iff] at z
            obtain ⟨j, hj, rfl⟩ := z
            cases r2
            refine .inl ⟨a, _, n, j, rfl, rfl, s12 _ _ h3, by rw [rr.length]; exact hj, p2 own _ _ ?_⟩
            exact (g.mono s12).upd hl h1 h2 q (.lst ((rr.mono (hid_same s12)).set r1 j))
          | _ => cases z
        | dk rr =>
          simp only [putO] at z
          cases e : keyD x with
          | none => rw [e] at z; cases z
          | some kk =>
            rw [e] at z
            simp only at z
            split at z
            case isFalse => cases z
            case isTrue hsz =>
              cases z
              rw [keyD_ok r2 e]
              exact .inr (.inl ⟨a, _, rfl, DPut.k (v := v) (s12 _ _ h3) (by rw [rr.len, ← szL_eq]; exact hsz), p2 own _ _ ((g.mono s12).upd hl h1 h2 q (.dk ((rr.mono (hid_same s12)).put e r1)))⟩)
        | dkT rr =>
          simp only [putO] at z
          cases e : keyT x with
          | none => rw [e] at z; cases z
          | some kk =>
            rw [e] at z
            simp only at z
            split at z
            case isFalse => cases z
            case isTrue hsz =>
              cases z
              obtain ⟨b, ob, rfl, hb⟩ := keyT_ok e r2
              have rr2 := rr.mono (hid_same s12)
              refine .inr (.inr ⟨a, b, kk, _, ob, rfl, rfl, s12 _ _ h3, hid_le _ _ _ _ hb, fun y hy => ?_, by rw [rr.len, ← szL_eq]; exact hsz, fun u ru => p2 own _ _ ((g.mono s12).upd hl h1 h2 q (.dkT (rr2.put e r2 ru r1)))⟩)
              obtain ⟨o3, k3⟩ := rr2.kts y hy
              exact ⟨o3, hid_le _ _ _ _ k3⟩
theorem ite_S {c : Env → Res D} {a b : Env → Out} (h : tS K lin W (fun ρ => tstO (c ρ) fun k => if k then a ρ else b ρ) DE σ H) : tIfS (tT K lin W c) (tS K lin W a) (tS K lin W b) DE σ H := by
  obtain ⟨H0, own0, B, own, ρ, g, p⟩ := h
  refine ⟨own, ρ, g.gd, postS_T g p fun k H' q pp s => ?_⟩
  cases k with
  | true => rw [if_pos rfl]; exact ⟨H0, own0, B, own, ρ, g.mono s, pp⟩
  | false => rw [if_neg Bool.false_ne_true]; exact ⟨H0, own0, B, own, ρ, g.mono s, pp⟩
theorem seq_S {a b : Env → Out} (h : tS K lin W (fun ρ => (a ρ).then b) DE σ H) : tSeq (tS K lin W a) (tS K lin W b) DE σ H := by
  obtain ⟨H0, own0, B, own, ρ, g, p⟩ := h
  refine ⟨H0, own0, B, own, ρ, g, ?_⟩
  cases q : a ρ with
  | nx ρ1 =>
    simp only [q, Out.then] at p
    exact fun own1 σ1 H1 g1 => ⟨H0, own0, B, own1, ρ1, g1, p⟩
  | ret d => simp only [q, Out.then] at p; exact p
  | exc e => simp only [q, Out.then] at p; exact p
  | stuck => simp only [q, Out.then] at p; exact p
theorem nil_S (h : tS K lin W (fun ρ => .nx ρ) DE σ H) : tNext DE σ H := by
  obtain ⟨H0, own0, B, own, ρ, g, p⟩ := h
  exact p own σ H g
theorem postS_ends {DE' : Ends} {H0 : Hp} {own0 : List Addr} {B : Hp} {o : Out} {f : Env → Out} (p : postS K W H0 own0 B lin DE (o.then f)) (hr : DE'.rt = DE.rt)
    (hn : ∀ ρ own σ H, postS K W H0 own0 B lin DE (f ρ) → OkS K H0 own0 B lin own σ H ρ → DE'.nx σ H) : postS K W H0 own0 B lin DE' o := by
  cases o with
  | nx ρ => exact fun own σ H g => hn ρ own σ H p g
  | ret d =>
    intro own v H g r
    rw [hr]
    exact p own v H g r
  | exc e => exact p
  | stuck => exact p
theorem whl_S {c : Env → Res D} {b : Env → Out} (h : tS K lin W (whileR c b) DE σ H) : tWhile (tT K lin W c) (tS K lin W b) DE σ H := by
  obtain ⟨H0, own0, B, own, ρ, g, p⟩ := h
  rcases whileR_get (c := c) (b := b) (ρ := ρ) with z | ⟨n, hn⟩
  · rw [z] at p; exact p.elim
  · refine ⟨fun m σ H => ∃ own ρ o, OkS K H0 own0 B lin own σ H ρ ∧ whileN c b m ρ = some o ∧ postS K W H0 own0 B lin DE o, ⟨n, own, ρ, _, g, hn, p⟩, ?_⟩
    rintro m σ1 H1 ⟨own1, ρ1, o, g1, h1, p1⟩
    cases m with
    | zero => cases h1
    | succ m =>
      unfold whileN at h1
      refine ⟨own1, ρ1, g1.gd, ?_⟩
      cases q : c ρ1 with
      | exc e => rw [q] at h1; cases h1; exact fun H' s => p1 σ1 H' (g1.same.trans s)
      | stuck => rw [q] at h1; cases h1; exact p1
      | ok d =>
        rw [q] at h1
        cases d with
        | bl k =>
          intro H2 s
          cases k with
          | false =>
            rw [if_neg Bool.false_ne_true]
            cases h1
            exact p1 own1 σ1 H2 (g1.mono s)
          | true =>
            rw [if_pos rfl]
            simp only at h1
            refine ⟨fun σ H => ∃ own ρ o, OkS K H0 own0 B lin own σ H ρ ∧ whileN c b m ρ = some o ∧ postS K W H0 own0 B lin DE o, fun σ' H' z => ⟨m, Nat.lt_succ_self m, z⟩, H0, own0, B, own1, ρ1, g1.mono s, ?_⟩
            cases e : b ρ1 with
            | nx ρ2 =>
              rw [e] at h1
              exact fun own σ H g => ⟨own, ρ2, o, g, h1, p1⟩
            | ret d => rw [e] at h1; cases h1; exact p1
            | exc d => rw [e] at h1; cases h1; exact p1
            | stuck => rw [e] at h1; cases h1; exact p1
        | _ => cases h1; exact p1.elim
theorem loop_S {items : Env → Res (List D)} {tg : Tg} {b : Env → Out} {pr : Bool} (hf : tgFree lin tg) (hp : pr = true → ∃ a b, tg = .tup2 a b) (h : tS K lin W (fun ρ => resO (items ρ) fun ds => forR tg b ds ρ) DE σ H) :
    tFor (tI K lin W pr items) (rdTg K tg) (tS K lin W b) DE σ H := by
  obtain ⟨H0, own0, B, own, ρ, g, p⟩ := h
  refine ⟨own, ρ, g.gd, ?_⟩
  cases q : items ρ with
  | exc e => simp only [q, resO] at p; exact fun H' s => p σ H' (g.same.trans s)
  | stuck => simp only [q, resO] at p; exact p
  | ok ds =>
    simp only [q, resO] at p
    intro J H1 G Y s w hG hY
    have g1 := g.mono s
    refine for_it w (fun i σ2 H2 => ∃ own2 ρ2, OkS K H0 own0 (hid own H1) lin own2 σ2 H2 ρ2 ∧ postS K W H0 own0 (hid own H1) lin DE (forR tg b (ds.drop i) ρ2)) ?_ ?_ ?_ ?_
    · exact ⟨own, ρ, g1.rebase, p.base g1.safe⟩
    · rintro i σ2 H2 _ ⟨own2, ρ2, g2, _⟩
      exact hG own2 H2 g2.safe
    · rintro i x σ2 H2 H3 hi ⟨own2, ρ2, g2, p2⟩ y
      have hd : ds[i]? = some ds[i] := List.getElem?_eq_getElem hi
      obtain ⟨s3, r3, r4⟩ := hY i _ own2 H2 x H3 hd g2.gd.trk g2.safe y
      rw [List.drop_eq_getElem_cons hi] at p2
      unfold forR at p2
      cases ea : assignTg tg ds[i] ρ2 with
      | none => rw [ea] at p2; exact p2.elim
      | some ρ3 =>
        rw [ea] at p2
        simp only at p2
        refine tg_irep tg hf (g2.gd.mono s3) r4 ?_ ea fun σ3 g3 s4 => ⟨H0, own0, hid own H1, own2, ρ3, (g2.mono s3).tg hf g3 s4 fun j hj => assign_ne tg hf ea j hj, ?_⟩
        · cases pr with
          | true => exact .inr (hp rfl)
          | false => exact .inl (r3 rfl)
        · exact postS_ends p2 rfl fun ρ4 own4 σ4 H4 p4 g4 => ⟨own4, ρ4, g4, p4⟩
    · rintro σ2 H2 ⟨own2, ρ2, g2, p2⟩
      rw [List.drop_length] at p2
      exact p2 own2 σ2 H2 g2
end
section
variable {K : KK} {lin : List Nat} {W : Wsh} {DE : Ends} {σ : St} {H : Hp}
theorem setG_S {f : Env → Res D} {i : Nat} (hl : i ∈ lin) (h : tS K lin W (fun ρ => resO (f ρ) fun d => match d with | .lst _ => .nx (ρ.set i (some d)) | _ => .stuck) DE σ H) : tAsg (tF K lin W fun ρ => guardL (f ρ)) (gName i) DE σ H := by
  refine setF_S hl ?_
  have e : (fun ρ : Env => resO (guardL (f ρ)) fun d => Out.nx (ρ.set i (some d))) = fun ρ : Env => resO (f ρ) fun d => match d with | .lst _ => .nx (ρ.set i (some d)) | _ => .stuck := by
    funext ρ
    cases f ρ with
    | ok d => cases d <;> rfl
    | _ => rfl
  rw [e]; exact h
theorem kill_S {f : Env → Out} {vs : List Nat} (h : tS K lin W (fun ρ => (Out.nx (wipeD ρ vs)).then f) DE σ H) : tS K lin W f DE σ H := by
  obtain ⟨H0, own0, B, own, ρ, g, p⟩ := h
  exact ⟨H0, own0, B, own, wipeD ρ vs, g.kill vs, p⟩
theorem frz_S {f : Env → Out} {i : Nat} (h : tS K lin W (fun ρ => (freed i (f ρ)).then fun ρ => .nx ρ) DE σ H) : tS K (less lin i) W f DE σ H := by
  obtain ⟨H0, own0, B, own, ρ, g, p⟩ := h
  obtain ⟨own', g'⟩ := g.frz i
  refine ⟨H0, own0, hid own' H, own', ρ, g'.rebase, ?_⟩
  have p : postS K W H0 own0 (hid own' H) lin DE ((freed i (f ρ)).then fun ρ => .nx ρ) := p.base g'.safe
  cases q : f ρ with
  | nx ρ2 =>
    rw [q] at p
    intro own2 σ2 H2 g2
    cases r : ρ2[i]? with
    | none =>
      have e : freed i (.nx ρ2) = .nx ρ2 := by unfold freed; simp only [r]
      rw [e] at p
      exact p own2 σ2 H2 (g2.thaw fun d z => by rw [r] at z; cases z)
    | some z =>
      cases z with
      | none =>
        have e : freed i (.nx ρ2) = .nx ρ2 := by unfold freed; simp only [r]
        rw [e] at p
        exact p own2 σ2 H2 (g2.thaw fun d z => by rw [r] at z; cases z)
      | some d =>
        have e : freed i (.nx ρ2) = .stuck := by unfold freed; simp only [r]
        rw [e] at p
        exact p.elim
  | ret d => rw [q] at p; exact p
  | exc e => rw [q] at p; exact p
  | stuck => rw [q] at p; exact p
theorem pop_core {f : Env → Res D} {j : Nat} {ρ : Env} {H0 : Hp} {own0 : List Addr} {B : Hp} {own : List Addr} {g0 : D → List D → Out} {Q : VK} (hj : j ∈ lin) (g : OkS K H0 own0 B lin own σ H ρ)
    (p : postS K W H0 own0 B lin DE (match ρ[j]? with
      | some (some (.lst xs)) => resO (f ρ) fun d => match popD xs d with
        | some (x, ys) => g0 x ys
        | none => .stuck
      | _ => .stuck))
    (k : ∀ a xs (vs : List V) x ys v ws H', ρ[j]? = some (some (.lst xs)) → σ[j]? = some (some (.ref a)) → a ∈ own → Same H H' → Rep K (hid own H') v x → Reps K (hid own H') ws ys → postS K W H0 own0 B lin DE (g0 x ys) → Q v (L2.upd H' a (.lst ws))) :
    tBM K "list" rPopAt (tVar j) (tCons (tE K lin W f) tNil) σ H Q := by
  cases q : ρ[j]? with
  | none => simp only [q] at p; exact p.elim
  | some z =>
    cases z with
    | none => simp only [q] at p; exact p.elim
    | some d =>
      cases d with
      | lst xs =>
        simp only [q] at p
        obtain ⟨a, o, h1, h2, h3, h4⟩ := g.gd.lob j _ q hj
        cases h4 with
        | lst rr =>
          rename_i vs
          refine ⟨_, h1, .inl ⟨rfl, vs, .of h3⟩, own, ρ, g.gd, postS_E g p fun d v H' q' pp s r => ?_⟩
          cases w : popD xs d with
          | none => rw [w] at pp; exact pp.elim
          | some pr =>
            obtain ⟨x, ys⟩ := pr
            rw [w] at pp
            unfold popD at w
            split at w
            · rename_i n
              split at w
              case isFalse => cases w
              case isTrue hb =>
                cases r
                simp only [Option.bind_eq_some_iff, Option.map_eq_some_iff, Prod.mk.injEq] at w
                obtain ⟨m, h5, x', h6, rfl, rfl⟩ := w
                have rr := rr.mono (hid_same s)
                obtain ⟨y, h7, h8⟩ := rr.get h6
                have := inB_ok hb
                refine ⟨a, vs, n, m, y, rfl, rfl, s _ _ h3, by omega, by omega, by rw [rr.length]; exact (ixN_seq h5).1, h7, k a xs vs x' _ y _ H' q h1 h2 s h8 (rr.eraseIdx m) pp⟩
            · cases w
      | _ => simp only [q] at p; exact p.elim
theorem pop_S {f : Env → Res D} {i j : Nat} (hi : i ∉ lin) (hj : j ∈ lin) (h : tS K lin W (fun ρ => match ρ[j]? with
      | some (some (.lst xs)) => resO (f ρ) fun d => match popD xs d with
        | some (x, ys) => .nx ((ρ.set j (some (.lst ys))).set i (some x))
        | none => .stuck
      | _ => .stuck) DE σ H) : tAsg (tBM K "list" rPopAt (tVar j) (tCons (tE K lin W f) tNil)) (gName i) DE σ H := by
  obtain ⟨H0, own0, B, own, ρ, g, p⟩ := h
  refine pop_core hj g p fun a xs vs x ys v ws H' q h1 h2 s r rs pp => ?_
  have g2 := (g.mono s).upd hj h1 h2 q (.lst rs)
  refine pp own _ _ (g2.set ?_ hi)
  rw [hid_upd h2]; exact r
theorem popx_S {f : Env → Res D} {j : Nat} (hj : j ∈ lin) (h : tS K lin W (fun ρ => match ρ[j]? with
      | some (some (.lst xs)) => resO (f ρ) fun d => match popD xs d with
        | some (x, ys) => .nx (ρ.set j (some (.lst ys)))
        | none => .stuck
      | _ => .stuck) DE σ H) : tDrop (tBM K "list" rPopAt (tVar j) (tCons (tE K lin W f) tNil)) DE σ H := by
  obtain ⟨H0, own0, B, own, ρ, g, p⟩ := h
  exact pop_core (g0 := fun x ys => .nx (ρ.set j (some (.lst ys)))) hj g p fun a xs vs x ys v ws H' q h1 h2 s r rs pp => pp own _ _ ((g.mono s).upd hj h1 h2 q (.lst rs))
theorem ext_S {f : Env → Res D} {j : Nat} (hj : j ∈ lin) (h : tS K lin W (fun ρ => match ρ[j]? with
      | some (some (.lst xs)) => resO (f ρ) fun d => match d with
        | .lst ys => if xs.length + ys.length ≤ szL then .nx (ρ.set j (some (.lst (xs ++ ys)))) else .stuck
        | _ => .stuck
      | _ => .stuck) DE σ H) : tDrop (tBM K "list" rExtend (tVar j) (tCons (tE K lin W f) tNil)) DE σ H := by
  obtain ⟨H0, own0, B, own, ρ, g, p⟩ := h
  cases q : ρ[j]? with
  | none => simp only [q] at p; exact p.elim
  | some z =>
    cases z with
    | none => simp only [q] at p; exact p.elim
    | some d =>
      cases d with
      | lst xs =>
        simp only [q] at p
        obtain ⟨a, o, h1, h2, h3, h4⟩ := g.gd.lob j _ q hj
        cases h4 with
        | lst rr =>
          rename_i vs
          refine ⟨_, h1, .inl ⟨rfl, vs, .of h3⟩, own, ρ, g.gd, postS_E g p fun d v H' q' pp s r => ?_⟩
          cases d with
          | lst ys =>
            simp only at pp
            by_cases hs : xs.length + ys.length ≤ szL
            · rw [if_pos hs] at pp
              obtain ⟨b, ws, rfl, hb, rb⟩ := r.lst_
              refine ⟨a, b, vs, ws, rfl, rfl, s _ _ h3, hid_le _ _ _ _ hb, by rw [rr.length, rb.length, ← szL_eq]; exact hs, pp own _ _ ?_⟩
              exact (g.mono s).upd hj h1 h2 q (.lst ((rr.mono (hid_same s)).app rb))
            · rw [if_neg hs] at pp; exact pp.elim
          | _ => exact pp.elim
      | _ => simp only [q] at p; exact p.elim
end
theorem swSole {t e : Expr} {l : Nat} {env : PySem.Env} (h : noComp e = true) : swapsWithSole [t] e l env = pure false := by
  unfold swapsWithSole
  exact swFalse h _ _ _
theorem assign_sub {o i : Expr} {pos : Pos} {env : PySem.Env} (h : plainE i = true) (v : Value) : assign (.Subscript o i pos) env v = (do
      let ov ← holding [v] (eval o env)
      let iv ← holding [v, ov] (eval i env)
      standAt pos
      holding [v, ov, iv] (setItem ov iv v)
      release [v, ov, iv] []) := by
  cases i <;> first | rfl | exact Bool.noConfusion h
theorem upd_same' {H H1 : Hp} {a : Addr} {o : HO} (hn : H a = none) (s : Same H H1) : Same H (upd H1 a o) := fun b u e => by
  have ne : b ≠ a := fun z => by subst z; rw [hn] at e; cases e
  unfold upd
  rw [if_neg ne]
  exact s b u e
theorem atI0 (x : V) (xs : List V) : L2.atI (x :: xs) 0 = some x := by
  exact L2.atI_nat (xs := x :: xs) (j := 0) (v := x) rfl
theorem fapp_S {X : Cx} {ec : Ex → Addr} {W : WX} {lin : List Nat} {σ : L2.St} {H : Hp} {DE : Ends} {n : Nat} {F : List D → Res D} {f : Env → Res (List D)} {fs : Env → Out} {ti tz : TE} {z : T} (hn : ∀ ds, ds.length ≠ n → F ds = .stuck) {j : Nat} (hj : j ∉ lin)
    (hi : ∀ {σ H Q}, tE X.KK lin (wsh ec W) (fun _ => .ok (.int 0)) σ H Q → ti σ H Q) (hz : ∀ {σ H Q}, tE X.KK lin (wsh ec W) (fun _ => .ok (.str z)) σ H Q → tz σ H Q)
    (h : tS X.KK lin (wsh ec W) (fun ρ => (resO (f ρ) fun ds => resO (F ds) fun d => match d with
      | .tup (.lst ys :: _) => if j < ρ.length ∧ ys.length < szL then .nx (ρ.set j none) else .stuck
      | _ => .stuck).then fs) DE σ H) :
    tSeq (tAsg (tCallS (spT X.KK ec n F) (WE W) (tAs X.KK lin (wsh ec W) f)) (gName j)) (tSeq (tDrop (tBM X.K "list" rAppend (tOp (rIx X.K) (tVar j) ti) (tCons tz tNil))) (tS X.KK lin (wsh ec W) fs)) DE σ H := by
  obtain ⟨H0, own0, B, own, ρ, g, p⟩ := h
  refine ⟨own, ρ, g.gd, ?_⟩
  cases q : f ρ with
  | exc e => simp only [q, resO, Out.then] at p; exact fun H' s => p σ H' (g.same.trans s)
  | stuck => simp only [q, resO, Out.then] at p; exact p
  | ok ds =>
    simp only [q, resO] at p
    intro vs H1 s1 rs
    have g1 := g.mono s1
    by_cases hl : ds.length = n
    case neg => rw [hn ds hl] at p; exact p.elim
    refine ⟨own, ds, g1.gd.trk, rs, hl, ?_⟩
    cases y : F ds with
    | stuck => rw [y] at p; exact p
    | exc e => rw [y] at p; simp only [Out.then] at p; exact fun H' s => p σ H' (g1.same.trans s)
    | ok d =>
      rw [y] at p
      intro v H2 s2 r fn
      cases d with
      | tup es =>
        cases es with
        | nil => exact p.elim
        | cons e es =>
          cases e with
          | lst ys =>
            dsimp only at p
            by_cases c : j < ρ.length ∧ ys.length < szL
            case neg => rw [if_neg c] at p; exact p.elim
            rw [if_pos c] at p
            simp only [Out.then] at p
            obtain ⟨pa, ws, o, rfl, hp, rr⟩ := r.tup_
            cases rr with
            | cons r1 rr =>
              obtain ⟨a, us, rfl, ha, ru⟩ := r1.lst_
              have hp2 := hid_le own H2 _ _ hp
              have ha2 := hid_le own H2 _ _ ha
              have na := fn pa a _ o rfl hp2
              have g2 : OkS X.KK H0 own0 B lin own (σ.set j (some (.ref pa))) H2 (ρ.set j none) := (g1.mono s2).drop hj
              refine ⟨.ref pa, by rw [List.getElem?_set_self (by rw [← g.gd.len]; exact c.1)], hi ⟨own, _, g2.gd, fun i H3 s3 ri => ?_⟩⟩
              obtain rfl := RepB.int_ (.safe ri)
              refine .inr (.inl ⟨pa, _, 0, .ref a, rfl, rfl, .inl (.inr ⟨_, s3 _ _ hp2⟩), atI0 _ _, .inl ⟨rfl, us, .of (s3 _ _ ha2)⟩, hz ⟨own, _, (g2.mono s3).gd, fun w H4 s4 rw_ => ?_⟩⟩)
              have ha4 := s4 _ _ (s3 _ _ ha2)
              refine ⟨a, us, w, rfl, rfl, ha4, by rw [ru.length, ← szL_eq]; exact c.2, ?_⟩
              have ss := upd_same' (o := HO.lst (us ++ [w])) na ((s2.trans s3).trans s4)
              exact ⟨H0, own0, B, own, _, (g1.mono ss).drop hj, p⟩
          | _ => exact p.elim
      | _ => exact p.elim
theorem okSs_fapp {ck : Ck} {exs : List Ex} {j n : Nat} {xs : Cds} {z : T} {r : Sds} {sts : List Stmt} (o : okSs ck exs (.cons (.fapp j n xs z) r) sts = true) :
    ∃ (x : Str) (p : Pos) (f : Str) (p3 : Pos) (e1 : Expr) (es : List Expr) (pos p4 : Pos) (y : Str) (p5 : Pos) (e0 : Expr) (p6 p1 : Pos) (ea : Expr) (p2 p7 : Pos) (ss : List Stmt),
      sts = .Assign [.Name x p] (.Call (.Name f p3) (e1 :: es) [] p4) pos :: .Expr (.Call (.Attribute (.Subscript (.Name y p5) e0 p6) "append" p1) [ea] [] p2) p7 :: ss ∧
      ck.N[j]? = some x ∧ locOk ck x = true ∧ (!ck.lin.contains j) = true ∧ ck.fs[n]? = some f ∧ ck.glob f = true ∧ frT.contains f = true ∧ oks ck xs (e1 :: es) = true ∧ ck.slot j y = true ∧
      okE ck false (.int 0) e0 = true ∧ plainE e0 = true ∧ okE ck false (.str z) ea = true ∧ plainE ea = true ∧ attrLine p1 p2 = true ∧ okSs ck exs r ss = true := by
  unfold okSs at o
  split at o
  all_goals first
    | exact Bool.noConfusion o
    | contradiction
    | (rename_i hc; injection hc with z1 z2; cases z1; done)
    | skip
  · rename_i es _ _ _ _ _ _ _ _ _ _ _ _ heq
    injection heq with z1 z2
    injection z1 with z3 z4 z5 z6
    subst z2 z3 z4 z5 z6
    simp only [Bool.and_eq_true, decide_eq_true_eq] at o
    obtain ⟨⟨⟨⟨⟨⟨⟨⟨⟨⟨⟨⟨⟨⟨⟨o1, o2⟩, o3⟩, o4⟩, o5⟩, o6⟩, o7⟩, o8⟩, o9⟩, o10⟩, o11⟩, o12⟩, o13⟩, o14⟩, o15⟩, o16⟩ := o
    subst o12
    cases es with
    | nil => exact Bool.noConfusion o8
    | cons e1 es => exact ⟨_, _, _, _, _, _, _, _, _, _, _, _, _, _, _, _, _, rfl, o1, o2, o3, o4, o5, o6, o7, o9, o10, o11, o13, o14, o15, o16⟩
  · rename_i a _ s _ _ _ _ heq
    injection heq with z1 z2
    subst z1
    rw [Bool.and_eq_true] at o
    have o1 := o.1
    cases s <;> exact Bool.noConfusion o1
mutual
theorem snd1 {ec : Ex → Addr} {Γ : Tbl} {C : Cns} {exs : List Ex} : ∀ (c : Sd) (st : Stmt) {X : Cx} {ck : Ck} {W : WX}, XS X ck ec W Γ C exs → okS ck exs c st = true → PS X st (tS X.KK ck.lin (wsh ec W) (run Γ C c))
  | .doc, st, X, ck, W, h, o => by
    cases st with
    | Expr e pos =>
      cases e with
      | Constant k kk p =>
        cases k with
        | str z => exact ps_doc.imp fun _ _ _ q => nil_S q
        | _ => exact Bool.noConfusion o
      | _ => exact Bool.noConfusion o
    | _ => exact Bool.noConfusion o
  | .set i c, st, X, ck, W, h, o => by
    cases st with
    | Assign ts e pos =>
      match ts, o with
      | [t], o =>
        cases t with
        | Name x p =>
          simp only [okS, Bool.and_eq_true, decide_eq_true_eq] at o
          obtain ⟨⟨⟨⟨⟨o1, o2⟩, o3⟩, o4⟩, od⟩, o5⟩ := o
          exact (set_E h o1 o2 o4 od o5).imp fun _ _ _ q => set_S (not_mem o3) q
        | _ => exact Bool.noConfusion o
      | [], o => exact Bool.noConfusion o
      | t :: _ :: _, o => cases t <;> exact Bool.noConfusion o
    | _ => exact Bool.noConfusion o
  | .setF i c, st, X, ck, W, h, o => by
    cases st with
    | Assign ts e pos =>
      match ts, o with
      | [t], o =>
        cases t with
        | Name x p =>
          simp only [okS, Bool.and_eq_true, decide_eq_true_eq] at o
          obtain ⟨⟨⟨⟨⟨o1, o2⟩, o3⟩, o4⟩, o5⟩, o6⟩ := o
          exact (set_F h o1 o2 o4 o5 o6).imp fun _ _ _ q => setF_S (List.contains_iff_mem.mp o3) q
        | _ => exact Bool.noConfusion o
      | [], o => exact Bool.noConfusion o
      | t :: _ :: _, o => cases t <;> exact Bool.noConfusion o
    | _ => exact Bool.noConfusion o
  | .unp tg c, st, X, ck, W, h, o => by
    cases st with
    | Assign ts e pos =>
      match ts, o with
      | [t], o =>
        cases t with
        | Tuple es k p =>
          match es, o with
          | [e1, e2], o =>
            simp only [okS, Bool.and_eq_true] at o
            obtain ⟨⟨⟨o1, o2⟩, o3⟩, o4⟩ := o
            have hw : swappedStores [.Tuple [e1, e2] k p] e X.env = pure none := by
              cases e <;> first | rfl | exact Bool.noConfusion o4
            exact (ps_asg (sndE c false e h.ok o2) (sndTgS h tg _ o1) (swSole o3) hw rfl).imp fun _ _ _ q => unp_S (okTgS_free tg _ o1) q
          | [], o => exact Bool.noConfusion o
          | [_], o => exact Bool.noConfusion o
          | _ :: _ :: _ :: _, o => exact Bool.noConfusion o
        | _ => exact Bool.noConfusion o
      | [], o => exact Bool.noConfusion o
      | t :: _ :: _, o =>
        cases t with
        | Tuple es k p =>
          match es, o with
          | [_, _], o => exact Bool.noConfusion o
          | [], o => exact Bool.noConfusion o
          | [_], o => exact Bool.noConfusion o
          | _ :: _ :: _ :: _, o => exact Bool.noConfusion o
        | _ => exact Bool.noConfusion o
    | _ => exact Bool.noConfusion o
  | .unp3 i j k c, st, X, ck, W, h, o => by
    unfold okS at o
    split at o
    all_goals first
      | exact Bool.noConfusion o
      | contradiction
      | skip
    rename_i hc
    injection hc with z1 z2 z3 z4
    subst z1 z2 z3 z4
    rename_i x px y py z pz kk p e pos
    simp only [Bool.and_eq_true] at o
    obtain ⟨⟨⟨⟨⟨o1, o2⟩, o3⟩, o4⟩, o5⟩, o6⟩ := o
    have hw : swappedStores [.Tuple [.Name x px, .Name y py, .Name z pz] kk p] e X.env = pure none := by
      cases e <;> first | rfl | exact Bool.noConfusion o6
    exact (ps_asg (sndE _ false e h.ok o4) (pg_lst h.ok.calm (pgs_cons (sndTgS h (.name _) _ o1) (pgs_cons (sndTgS h (.name _) _ o2) (pgs_cons (sndTgS h (.name _) _ o3) pgs_nil)))) (swSole o5) hw rfl).imp fun _ _ _ q => unp3_S (okTgS_free (.name _) _ o1) (okTgS_free (.name _) _ o2) (okTgS_free (.name _) _ o3) (by simp only [run] at q; exact q)
  | .par i j a b, st, X, ck, W, h, o => by
    unfold okS at o
    split at o
    all_goals first
      | exact Bool.noConfusion o
      | contradiction
      | skip
    rename_i hc
    injection hc with z1 z2 z3 z4
    subst z1 z2 z3 z4
    simp only [Bool.and_eq_true, decide_eq_true_eq] at o
    obtain ⟨⟨⟨⟨⟨⟨⟨o1, o2⟩, o3⟩, o4⟩, o5⟩, o6⟩, o7⟩, o8⟩ := o
    have hk : X.env.scope.kind = .function := by rw [h.ok.sc]; exact h.kind
    have q8 := o8
    unfold parOk at q8
    simp only [Bool.and_eq_true, decide_eq_true_eq] at q8
    obtain ⟨⟨⟨⟨⟨⟨⟨p1, p2⟩, p3⟩, p4⟩, p5⟩, p6⟩, p7⟩, p8⟩ := q8
    exact (ps_par h.ok.calm h.ok.nd (h.ix o1) (h.ix o2) o3 (by rw [h.ok.sc]; exact p1) (by rw [h.ok.sc]; exact p2) (pa_cons (sndE a false _ h.ok o6) (pa_cons (sndE b false _ h.ok o7) pa_nil (star_plain p6 _ _)) (star_plain p5 _ _))
      (sw_par hk h.ok.sc o8) rfl).imp fun _ _ _ q => par_S (not_mem o4) (not_mem o5) q
  | .ret c, st, X, ck, W, h, o => by
    cases st with
    | Return e pos =>
      cases e with
      | some e => exact (ps_ret (sndE c false e h.ok o)).imp fun _ _ _ q => ret_S q
      | none => exact Bool.noConfusion o
    | _ => exact Bool.noConfusion o
  | .retL i, st, X, ck, W, h, o => by
    cases st with
    | Return e pos =>
      cases e with
      | some e =>
        cases e with
        | Name x p =>
          simp only [okS, Bool.and_eq_true] at o
          exact (ps_ret (h.ok.var o.1)).imp fun _ _ _ q => retL_S (List.contains_iff_mem.mp o.2) q
        | _ => exact Bool.noConfusion o
      | none => exact Bool.noConfusion o
    | _ => exact Bool.noConfusion o
  | .expr c, st, X, ck, W, h, o => by
    cases st with
    | Expr e pos =>
      simp only [okS, Bool.and_eq_true] at o
      exact (ps_expr (sndE c false e h.ok o.1) (swFalse o.2 _ _ _)).imp fun _ _ _ q => expr_S q
    | _ => exact Bool.noConfusion o
  | .app i c, st, X, ck, W, h, o => by
    unfold okS at o
    split at o
    all_goals first
      | exact Bool.noConfusion o
      | contradiction
      | skip
    rename_i hc
    injection hc with z1 z2
    subst z1 z2
    simp only [Bool.and_eq_true, decide_eq_true_eq] at o
    obtain ⟨⟨⟨⟨⟨o1, o2⟩, o3⟩, o4⟩, o5⟩, o6⟩ := o
    subst o3
    exact (ps_expr (pe_bm PySem.F.plainAttrs_list PySem.F.slot_list_append PySem.F.type_list_append mt_append (h.ok.var o1) (pa_cons (sndE c false _ h.ok o4) pa_nil (star_plain o5 _ _)) rfl (few1 _ o5 _ _) o6 (star_plain o5 _ _) rfl) rfl).imp fun _ _ _ q => app_S (List.contains_iff_mem.mp o2) q
  | .put i k v, st, X, ck, W, h, o => by
    unfold okS at o
    split at o
    all_goals first
      | exact Bool.noConfusion o
      | contradiction
      | skip
    rename_i hc
    injection hc with z1 z2 z3
    subst z1 z2 z3
    simp only [Bool.and_eq_true] at o
    obtain ⟨⟨⟨⟨⟨o1, o2⟩, o3⟩, o4⟩, o5⟩, o6⟩ := o
    refine (ps_asg (sndE v false _ h.ok o4) (pg_sub (h.ok.var o1) (sndE k false _ h.ok o3) (set_any (by have := h.ok.units; omega)) ?_) (swSole o6) rfl rfl).imp fun _ _ _ q => put_S (List.contains_iff_mem.mp o2) q
    exact fun v => assign_sub o5 v
  | .ite c a b, st, X, ck, W, h, o => by
    cases st with
    | If e p q pos =>
      simp only [okS, Bool.and_eq_true] at o
      obtain ⟨⟨⟨o1, o2⟩, o3⟩, o4⟩ := o
      exact (ps_if (sndT c e h.ok o1 o2) (sndL a p h o3) (sndL b q h o4)).imp fun _ _ _ q => ite_S q
    | _ => exact Bool.noConfusion o
  | .whl c b, st, X, ck, W, h, o => by
    cases st with
    | While e p q pos =>
      cases q with
      | nil =>
        simp only [okS, Bool.and_eq_true] at o
        obtain ⟨⟨o1, o2⟩, o3⟩ := o
        exact (ps_while h.po (sndT c e h.ok o1 o2) (sndL b p h o3)).imp fun _ _ _ q => whl_S q
      | cons _ _ => exact Bool.noConfusion o
    | _ => exact Bool.noConfusion o
  | .loop tg it b, st, X, ck, W, h, o => by
    cases st with
    | For target e p q pos =>
      cases q with
      | nil =>
        simp only [okS, Bool.and_eq_true] at o
        obtain ⟨⟨⟨o1, o2⟩, o3⟩, o4⟩ := o
        exact (ps_for h.po h.ok.calm (sndI it tg target e h.ok o2 (okTgS_tup o1)) (sndTgS h tg target o1) (sndL b p h o4) (folded o3 _)).imp fun _ _ _ q => loop_S (okTgS_free tg _ o1) (fun hp => okPr hp o2) q
      | cons _ _ => exact Bool.noConfusion o
    | _ => exact Bool.noConfusion o
  | .setG i c, st, X, ck, W, h, o => by
    cases st with
    | Assign ts e pos =>
      match ts, o with
      | [t], o =>
        cases t with
        | Name x p =>
          simp only [okS, Bool.and_eq_true, decide_eq_true_eq] at o
          obtain ⟨⟨⟨⟨⟨o1, o2⟩, o3⟩, o4⟩, o5⟩, o6⟩ := o
          exact (set_G h o1 o2 o4 o5 o6).imp fun _ _ _ q => setG_S (List.contains_iff_mem.mp o3) (by simp only [run] at q; exact q)
        | _ => exact Bool.noConfusion o
      | [], o => exact Bool.noConfusion o
      | t :: _ :: _, o => cases t <;> exact Bool.noConfusion o
    | _ => exact Bool.noConfusion o
  | .kill is, st, X, ck, W, h, o => by cases st <;> exact Bool.noConfusion o
  | .frzB i b, st, X, ck, W, h, o => by cases st <;> exact Bool.noConfusion o
  | .fapp _ _ _ _, st, X, ck, W, h, o => by cases st <;> exact Bool.noConfusion o
  | .pop i j c, st, X, ck, W, h, o => by
    unfold okS at o
    split at o
    all_goals first
      | exact Bool.noConfusion o
      | contradiction
      | skip
    rename_i hc
    injection hc with z1 z2 z3
    subst z1 z2 z3
    simp only [Bool.and_eq_true, decide_eq_true_eq] at o
    obtain ⟨⟨⟨⟨⟨⟨⟨⟨o1, o2⟩, o3⟩, o4⟩, o5⟩, o6⟩, o7⟩, o8⟩, o9⟩ := o
    subst o6
    exact (ps_asg (pe_bm PySem.F.plainAttrs_list PySem.F.slot_list_pop PySem.F.type_list_pop mt_popAt (h.ok.var o4) (pa_cons (sndE c false _ h.ok o7) pa_nil (star_plain o8 _ _)) rfl (few1 _ o8 _ _) o9 (star_plain o8 _ _) rfl)
      (pg_name h.ok.nd (h.ix o1) (h.loc o2) (.inl (h.fnt _))) (swSole rfl) rfl rfl).imp fun _ _ _ q => pop_S (not_mem o3) (List.contains_iff_mem.mp o5) (by simp only [run] at q; exact q)
  | .popx j c, st, X, ck, W, h, o => by
    unfold okS at o
    split at o
    all_goals first
      | exact Bool.noConfusion o
      | contradiction
      | skip
    rename_i hc
    injection hc with z1 z2
    subst z1 z2
    simp only [Bool.and_eq_true, decide_eq_true_eq] at o
    obtain ⟨⟨⟨⟨⟨o1, o2⟩, o3⟩, o4⟩, o5⟩, o6⟩ := o
    subst o3
    exact (ps_expr (pe_bm PySem.F.plainAttrs_list PySem.F.slot_list_pop PySem.F.type_list_pop mt_popAt (h.ok.var o1) (pa_cons (sndE c false _ h.ok o4) pa_nil (star_plain o5 _ _)) rfl (few1 _ o5 _ _) o6 (star_plain o5 _ _) rfl) rfl).imp fun _ _ _ q => popx_S (List.contains_iff_mem.mp o2) (by simp only [run] at q; exact q)
  | .ext j c, st, X, ck, W, h, o => by
    unfold okS at o
    split at o
    all_goals first
      | exact Bool.noConfusion o
      | contradiction
      | skip
    rename_i hc
    injection hc with z1 z2
    subst z1 z2
    simp only [Bool.and_eq_true, decide_eq_true_eq] at o
    obtain ⟨⟨⟨⟨⟨o1, o2⟩, o3⟩, o4⟩, o5⟩, o6⟩ := o
    subst o3
    exact (ps_expr (pe_bm PySem.F.plainAttrs_list PySem.F.slot_list_extend PySem.F.type_list_extend mt_extend (h.ok.var o1) (pa_cons (sndE c false _ h.ok o4) pa_nil (star_plain o5 _ _)) rfl (few1 _ o5 _ _) o6 (star_plain o5 _ _) rfl) rfl).imp fun _ _ _ q => ext_S (List.contains_iff_mem.mp o2) (by simp only [run] at q; exact q)
  | .rse x, st, X, ck, W, h, o => by
    unfold okS at o
    split at o
    all_goals first
      | exact Bool.noConfusion o
      | contradiction
      | skip
    rename_i hc
    injection hc with z1
    subst z1
    simp only [Bool.and_eq_true, decide_eq_true_eq] at o
    obtain ⟨⟨o1, o2⟩, o3⟩ := o
    subst o1
    refine (ps_raise h.ok.calm h.ta (rs_at (h.rs _ (List.contains_iff_mem.mp o3)) (h.ok.gl o2).2.1 _ _ _ _ _ (h.ok.gl o2).1)).imp fun DE σ H q => ?_
    obtain ⟨H0, own0, B, own, ρ, g, p⟩ := q
    exact p σ H g.same
  | .tryX ls d b, st, X, ck, W, h, o => by
    unfold okS at o
    split at o
    all_goals first
      | exact Bool.noConfusion o
      | contradiction
      | skip
    rename_i hc
    injection hc with z1 z2 z3
    subst z1 z2 z3
    simp only [Bool.and_eq_true, decide_eq_true_eq] at o
    obtain ⟨⟨⟨⟨⟨o1, o2⟩, o3⟩, o4⟩, o5⟩, o6⟩ := o
    exact (try_ps h (fun W' pn xe h' => sndL b _ h' o6) o1 o2 o3 o4 o5).imp fun _ _ _ q => by simp only [run] at q; exact q
theorem sndL {ec : Ex → Addr} {Γ : Tbl} {C : Cns} {exs : List Ex} : ∀ (c : Sds) (sts : List Stmt) {X : Cx} {ck : Ck} {W : WX}, XS X ck ec W Γ C exs → okSs ck exs c sts = true → PSs X sts (tS X.KK ck.lin (wsh ec W) (runs Γ C c))
  | .nil, [], X, ck, W, h, o => pss_nil.imp fun _ _ _ q => nil_S q
  | .nil, _ :: _, X, ck, W, h, o => Bool.noConfusion o
  | .cons a r, sts, X, ck, W, h, o => by
    cases a with
    | kill is =>
      simp only [okSs] at o
      exact (sndL r sts h o).imp fun _ _ _ q => kill_S (by simp only [runs, run] at q; exact q)
    | frzB i b =>
      cases r with
      | nil =>
        simp only [okSs] at o
        have h' : XS X { ck with lin := less ck.lin i } ec W Γ C exs := ⟨⟨h.ok.N, h.ok.sc, h.ok.nd, h.ok.calm, h.ok.units, h.ok.fs, h.ok.fn, h.ok.cs, h.ok.cn, h.ok.free, h.ok.tk⟩, h.po, h.fnt, h.kind, h.rs, h.hs, h.hf, h.tr, h.ta⟩
        exact (sndL b sts h' o).imp fun _ _ _ q => frz_S (by simp only [runs, run] at q; exact q)
      | cons a' r' => cases sts with
        | nil => exact Bool.noConfusion o
        | cons s ss =>
          simp only [okSs, Bool.and_eq_true] at o
          exact (pss_cons (snd1 (.frzB i b) s h o.1) (sndL (.cons a' r') ss h o.2)).imp fun _ _ _ q => seq_S (by simp only [runs] at q; exact q)
    | fapp j n xs z =>
      obtain ⟨x, p, f, p3, e1, es, pos, p4, y, p5, e0, p6, p1, ea, p2, p7, ss, rfl, k1, k2, k3, k4, k5, k6, k7, k8, k9, k10, k11, k12, k13, k14⟩ := okSs_fapp o
      obtain ⟨g1, g2, g3⟩ := h.ok.gl k5
      rw [← h.ok.fs, List.getElem?_map, Option.map_eq_some_iff] at k4
      obtain ⟨pp, q1, q2⟩ := k4
      obtain ⟨nn, k, fa, fd, ps, hn, _, hm, hk, hb, hr, _, FT⟩ := h.ok.fn n pp q1
      rw [q2] at hm
      have pl := oks_plain k7
      simp only [List.all_cons, Bool.and_eq_true] at pl
      have F' : FnOk X.prog X.w X.KK X.mg X.base (L2.CX X.prog X.w) k fa fd ps (spT X.KK ec nn pp.2) := FT (by rw [q2]; exact k6)
      have s1 := ps_set (e := .Call (.Name f p3) (e1 :: es) [] p4) (pos := pos) (pos' := p) h.ok.nd (h.ix k1) (h.loc k2) (pe_callS F' hr g1 hm hk hb (fun σ => h.ok.tk.pass σ) (sndS xs _ h.ok k7) g2 (star_plain pl.1 _ _) (star_any _ _ pl.2)) (swFalse rfl _ _ _) (.inl (h.fnt _))
      have s2 := ps_expr (e := .Call (.Attribute (.Subscript (.Name y p5) e0 p6) "append" p1) [ea] [] p2) (pos := p7) (pe_bm PySem.F.plainAttrs_list PySem.F.slot_list_append PySem.F.type_list_append mt_append (pe_ix ix_seq (h.ok.var k8) (sndE (.int 0) false e0 h.ok k9) (plainIx k10)) (pa_cons (sndE (.str z) false ea h.ok k11) pa_nil (star_plain k12 _ _)) rfl (few1 _ k12 _ _) k13 (star_plain k12 _ _) rfl) rfl
      refine (pss_cons s1 (pss_cons s2 (sndL r ss h k14))).imp fun DE σ H q => fapp_S (z := z) (F := pp.2) hn (not_mem k3) (fun t => ?_) (fun t => ?_) ?_
      · have e : ev Γ C (.int 0) = fun _ => .ok (.int 0) := by funext ρ; simp only [ev]
        rw [e]; exact t
      · have e : ev Γ C (.str z) = fun _ => .ok (.str z) := by funext ρ; simp only [ev]
        rw [e]; exact t
      · have e : (fun ρ => (resO (evs Γ C xs ρ) fun ds => resO (pp.2 ds) fun d => match d with
            | .tup (.lst ys :: _) => if j < ρ.length ∧ ys.length < szL then Out.nx (ρ.set j none) else .stuck
            | _ => .stuck).then (runs Γ C r)) = runs Γ C (.cons (.fapp j n xs z) r) := by
          funext ρ
          simp only [runs, run]
          rw [Tbl.fn_at Γ n pp q1]
          all_goals rfl
        rw [e]; exact q
    | _ =>
      cases sts with
      | nil => exact Bool.noConfusion o
      | cons s ss =>
        simp only [okSs, Bool.and_eq_true] at o
        exact (pss_cons (snd1 _ s h o.1) (sndL r ss h o.2)).imp fun _ _ _ q => seq_S (by simp only [runs] at q; exact q)
end
end PLq
namespace PLq
open PySem L2
mutual
def nrS : Sd → Bool
  | .set _ _ => true | .put _ _ _ => true | .app _ _ => true | .kill _ => true | .setG _ _ => true | .setF _ _ => true | .expr _ => true
  | .ite _ a b => nrSs a && nrSs b
  | .loop _ _ b => nrSs b
  | .whl _ b => nrSs b
  | _ => false
def nrSs : Sds → Bool
  | .nil => true
  | .cons a r => nrS a && nrSs r
end
theorem resO_nr {α : Type} {r : Res α} {f : α → Out} {d : D} (h : ∀ x, f x ≠ .ret d) : resO r f ≠ .ret d := by
  cases r with
  | ok x => exact h x
  | exc e => exact fun z => by cases z
  | stuck => exact fun z => by cases z
theorem whileN_nr {c : Env → Res D} {b : Env → Out} {d : D} (h : ∀ ρ, b ρ ≠ .ret d) : ∀ (n : Nat) (ρ : Env), whileN c b n ρ ≠ some (.ret d)
  | 0, ρ => fun z => by cases z
  | n + 1, ρ => by
    unfold whileN
    cases c ρ with
    | exc e => exact fun z => by cases z
    | stuck => exact fun z => by cases z
    | ok x =>
      cases x with
      | bl k =>
        cases k with
        | false => exact fun z => by cases z
        | true =>
          dsimp only
          cases q : b ρ with
          | nx ρ2 => exact whileN_nr h n ρ2
          | ret y => exact fun z => h ρ (by rw [q]; injection z)
          | exc e => exact fun z => by cases z
          | stuck => exact fun z => by cases z
      | _ => exact fun z => by cases z
theorem whileR_nr {c : Env → Res D} {b : Env → Out} {d : D} (h : ∀ ρ, b ρ ≠ .ret d) (ρ : Env) : whileR c b ρ ≠ .ret d := by
  rcases whileR_get (c := c) (b := b) (ρ := ρ) with e | ⟨n, e⟩
  · rw [e]; exact fun z => by cases z
  · exact fun z => whileN_nr h n ρ (by rw [e, z])
theorem forR_nr {tg : Tg} {b : Env → Out} {d : D} (h : ∀ ρ, b ρ ≠ .ret d) : ∀ (ds : List D) (ρ : Env), forR tg b ds ρ ≠ .ret d
  | [], ρ => fun z => by cases z
  | x :: ds, ρ => by
    unfold forR
    cases assignTg tg x ρ with
    | none => exact fun z => by cases z
    | some ρ1 =>
      show (b ρ1).then _ ≠ _
      cases q : b ρ1 with
      | nx ρ2 => exact forR_nr h ds ρ2
      | ret y => exact fun z => h ρ1 (by rw [q]; exact z)
      | exc e => exact fun z => by cases z
      | stuck => exact fun z => by cases z
mutual
theorem nr_S {Γ : Tbl} {C : Cns} {d : D} : ∀ (c : Sd), nrS c = true → ∀ ρ, run Γ C c ρ ≠ .ret d
  | .set i c, _, ρ => by simp only [run]; exact resO_nr fun x => fun z => by cases z
  | .setG i c, _, ρ => by
    simp only [run]
    refine resO_nr fun x => ?_
    cases x <;> exact fun z => by cases z
  | .kill is, _, ρ => by simp only [run]; exact fun z => by cases z
  | .put i k v, _, ρ => by
    simp only [run]
    split
    · refine resO_nr fun y => resO_nr fun x => ?_
      split <;> exact fun z => by cases z
    · exact fun z => by cases z
  | .app i c, _, ρ => by
    simp only [run]
    split
    · refine resO_nr fun y => ?_
      split <;> exact fun z => by cases z
    · exact fun z => by cases z
  | .ite c a b, o, ρ => by
    simp only [nrS, Bool.and_eq_true] at o
    simp only [run]
    have h1 := nr_Ss (Γ := Γ) (C := C) (d := d) a o.1 ρ
    have h2 := nr_Ss (Γ := Γ) (C := C) (d := d) b o.2 ρ
    have key : ∀ k : Bool, (if k = true then runs Γ C a ρ else runs Γ C b ρ) ≠ .ret d := fun k => by cases k <;> assumption
    unfold tstO
    split <;> first | exact key _ | exact fun z => by cases z
  | .loop tg it b, o, ρ => by
    simp only [nrS] at o
    simp only [run]
    exact resO_nr fun ds => forR_nr (nr_Ss b o) ds ρ
  | .setF i c, _, ρ => by simp only [run]; exact resO_nr fun x => fun z => by cases z
  | .expr c, _, ρ => by simp only [run]; exact resO_nr fun x => fun z => by cases z
  | .whl c b, o, ρ => by
    simp only [nrS] at o
    simp only [run]
    exact whileR_nr (nr_Ss b o) ρ
  | .doc, o, _ | .unp _ _, o, _ | .unp3 _ _ _ _, o, _ | .par _ _ _ _, o, _ | .ret _, o, _ | .retL _, o, _ | .rse _, o, _ | .frzB _ _, o, _ | .tryX _ _ _, o, _ | .pop _ _ _, o, _ | .popx _ _, o, _ | .ext _ _, o, _ | .fapp _ _ _ _, o, _ => by simp [nrS] at o
theorem nr_Ss {Γ : Tbl} {C : Cns} {d : D} : ∀ (c : Sds), nrSs c = true → ∀ ρ, runs Γ C c ρ ≠ .ret d
  | .nil, _, ρ => by simp [runs]
  | .cons a r, o, ρ => by
    simp only [nrSs, Bool.and_eq_true] at o
    simp only [runs]
    cases q : run Γ C a ρ with
    | nx ρ1 => exact nr_Ss r o.2 ρ1
    | ret y => exact fun _ => nr_S (d := y) a o.1 ρ q
    | exc e => exact fun z => by cases z
    | stuck => exact fun z => by cases z
end
end PLq
namespace PLq
open PySem L2
def startD (N : List Str) (ds : List D) : Env := ds.map some ++ List.replicate (N.length - ds.length) none
noncomputable def fnD (Γ : Tbl) (C : Cns) (code : Sds) (N : List Str) (n : Nat) (ds : List D) : Res D :=
  if ds.length = n then (match runs Γ C code (startD N ds) with
    | .nx _ => .ok .non
    | .ret d => .ok d
    | .exc e => .exc e
    | .stuck => .stuck) else .stuck
def FnG (P : Program) (w : World) (K : PySem.W.Frag) (mg : Str → Option Value) (base : Heap) (ec : Ex → Addr) (k : Nat) (x : Str) (F : List D → Res D) : Prop :=
  ∃ n f fd ps, (∀ ds, ds.length ≠ n → F ds = .stuck) ∧ FnOk P w K mg base (L2.CX P w) k f fd ps (spP ⟨K, P, w⟩ ec n F) ∧ mg x = some (.ref f) ∧ PySem.W.keepIn K (.ref f) = true ∧ Binds K fd ps [] ∧ (frN.contains x = true → FnOk P w K mg base (L2.CX P w) k f fd ps (spF ⟨K, P, w⟩ ec n F)) ∧ (frT.contains x = true → FnOk P w K mg base (L2.CX P w) k f fd ps (spT ⟨K, P, w⟩ ec n F))
structure Glb (P : Program) (w : World) (K : PySem.W.Frag) (mg : Str → Option Value) (base : Heap) (ec : Ex → Addr) (k : Nat) (Γ : Tbl) (C : Cns) (exs : List Ex) (trs : List TrD) : Prop where
  fn : ∀ (n : Nat) (p : Str × (List D → Res D)), Γ[n]? = some p → FnG P w K mg base ec k p.1 p.2
  cn : ∀ (n : Nat) (p : Str × D), C[n]? = some p → ∃ u v, mg p.1 = some u ∧ RelV v u ∧ ∀ H, Rep ⟨K, P, w⟩ H v p.2
  free : ∀ x ∈ fnames, mg x = none
  rs : ∀ e ∈ exs, RsG K mg (ec e) e.nm
  tr : ∀ d ∈ trs, TrG P w K mg base ec k d
theorem FnG.mono {P : Program} {w : World} {K : PySem.W.Frag} {mg : Str → Option Value} {base : Heap} {ec : Ex → Addr} {j k : Nat} {x : Str} {F : List D → Res D} (g : FnG P w K mg base ec j x F) (h : j ≤ k) : FnG P w K mg base ec k x F :=
  let ⟨n, f, fd, ps, h1, h2, h3, h4, h5, h6⟩ := g
  ⟨n, f, fd, ps, h1, h2.mono h, h3, h4, h5, fun z => (h6.1 z).mono h, fun z => (h6.2 z).mono h⟩
theorem gd_start {K : KK} {own : List Addr} {lin : List Nat} {N : List Str} {vs : List V} {ds : List D} {H : Hp} (tr : ∀ a, a ∈ own → ∃ o, H a = some o) (r : Reps K (hid own H) vs ds) (hl : ∀ i ∈ lin, ds.length ≤ i) :
    Gd K own lin (L2.start N vs) H (startD N ds) ∧ ∀ i a, i ∈ lin → (L2.start N vs)[i]? ≠ some (some (.ref a)) := by
  have hv := r.length
  have get : ∀ {i d}, (startD N ds)[i]? = some (some d) → ds[i]? = some d := fun {i d} h => by
    unfold startD at h
    by_cases hi : i < ds.length
    · rw [List.getElem?_append_left (by simpa using hi), List.getElem?_map] at h
      cases q : ds[i]? with
      | none => rw [q] at h; cases h
      | some e => rw [q] at h; cases h; rfl
    · rw [List.getElem?_append_right (by simpa using hi), List.getElem?_replicate] at h
      split at h <;> cases h
  have out : ∀ {i d}, (startD N ds)[i]? = some (some d) → i ∉ lin := fun {i d} h hi => by
    have h1 := get h
    rw [List.getElem?_eq_none (hl i hi)] at h1; cases h1
  refine ⟨⟨by simp [startD, L2.start, hv], fun i d h _ => ?_, fun i d h hi => absurd hi (out h), fun i j a d e hi _ h => absurd hi (out h), tr⟩, fun i a hi h => ?_⟩
  · obtain ⟨v, h1, h2⟩ := r.get (get h)
    refine ⟨v, ?_, h2⟩
    have hi : i < vs.length := by
      by_cases q : i < vs.length
      · exact q
      · rw [List.getElem?_eq_none (by omega)] at h1; cases h1
    unfold L2.start
    rw [List.getElem?_append_left (by simpa using hi), List.getElem?_map, h1]; rfl
  · have := hl i hi
    unfold L2.start at h
    rw [List.getElem?_append_right (by simp; omega), List.getElem?_replicate] at h
    split at h <;> cases h
section
variable {P : Program} {w : World} {K : PySem.W.Frag} {mg : Str → Option Value} {base : Heap} {ec : Ex → Addr} {k : Nat} {Γ : Tbl} {C : Cns} {exs : List Ex} {trs : List TrD} {x qual : Str} {params : Arguments} {body : List Stmt} {scope : Scope} {f : Addr} {fd : FuncData} {ps N : List Str}
theorem xs_of (G : Glb P w K mg base ec k Γ C exs trs) (S : FnScope N ps scope) {ck : Ck} (hN : ck.N = N) (hsc : ck.sc = scope) (hfs : Γ.map (·.1) = ck.fs) (hcs : C.map (·.1) = ck.cs) (htr : trs = ck.trs)
    {cdv : Value} {A : Around} {outer : List PySem.Env} {s : Shared} {H : Hp} {E : XK} (hr : Room k (A.deeper (PyProof.Rows.envOfC qual scope s.heap.objs.size f cdv))) :
    XS (cxOf (L2.CX P w) P w K mg base N qual scope f cdv A outer s H E) ck ec (fun cls d _ H => E cls d H) Γ C exs where
  ok := {
    N := hN.symm
    sc := hsc.symm
    nd := S.nd
    calm := rfl
    units := by
      have := hr.un
      show (A.deeper (PyProof.Rows.envOfC qual scope s.heap.objs.size f cdv)).units + 65 < cLine
      omega
    fs := hfs
    fn := fun n p h => by
      obtain ⟨m, f', fd', ps', h1, h2, h3, h4, h5, h6⟩ := G.fn n p h
      exact ⟨m, k, f', fd', ps', h1, h2, h3, h4, h5, hr, h6⟩
    cs := hcs
    cn := G.cn
    free := G.free
    tk := Tk.of rfl rfl (takes_of rfl rfl rfl rfl) }
  po := passes_of rfl
  fnt := fun _ => rfl
  kind := by rw [hsc]; exact S.kind
  rs := G.rs
  hs := rfl
  hf := rfl
  tr := fun d hd => ⟨k, G.tr d (by rw [htr]; exact hd), L2H.roomH_of hr⟩
  ta := takes_of rfl rfl rfl rfl
theorem fn_ok0 (G : Glb P w K mg base ec k Γ C exs trs) (ck : Ck) (code : Sds) (F : FunD K x qual params body scope [] [] f fd) (S : FnScope N ps scope) (o : okSs ck exs code body = true) (hN : ck.N = N) (hsc : ck.sc = scope)
    (hl : ck.lin.all (fun i => decide (ps.length ≤ i)) = true) (hfs : Γ.map (·.1) = ck.fs) (hcs : C.map (·.1) = ck.cs) (htr : trs = ck.trs) :
    FnOk P w K mg base (L2.CX P w) (k + 1) f fd ps (spP ⟨K, P, w⟩ ec ps.length (fnD Γ C code N ps.length)) := by
  refine FunD.ok F S (fun vs H Q E h => ?_) fun cdv A outer s H vs Q E hr h => ⟨tS ⟨K, P, w⟩ ck.lin (wsh ec fun cls d _ H => E cls d H) (runs Γ C code), sndL code body (xs_of G S hN hsc hfs hcs htr hr) o, ?_⟩
  · obtain ⟨own, ds, h1, h2, h3, _⟩ := h
    rw [h2.length]; exact h3
  · obtain ⟨own, ds, h1, h2, h3, h4⟩ := h
    have hl' : ∀ i ∈ ck.lin, ds.length ≤ i := fun i hi => by
      have := List.all_eq_true.mp hl i hi
      rw [h3]; exact of_decide_eq_true this
    obtain ⟨gd, nw⟩ := gd_start (N := N) h1 h2 hl'
    refine ⟨H, own, hid own H, own, startD N ds, ⟨gd, fun _ h => h, h1, Same.refl _, fun i a d hi _ e => absurd e (nw i a hi), Same.refl _⟩, ?_⟩
    unfold fnD at h4
    rw [if_pos h3] at h4
    cases q : runs Γ C code (startD N ds) with
    | nx ρ =>
      rw [q] at h4
      exact fun own1 σ1 H1 g => h4 _ H1 g.same .non
    | ret d =>
      rw [q] at h4
      exact fun own1 v H1 g r => h4 v H1 g.same (r.mono (hid_sub g.sub))
    | exc e =>
      rw [q] at h4
      exact fun σ1 H1 s => h4 H1 s
    | stuck => rw [q] at h4; exact h4
theorem fn_ok (G : Glb P w K mg base ec k Γ C exs trs) (ck : Ck) (code : Sds) (F : FunD K x qual params body scope [] [] f fd) (S : FnScope N ps scope) (o : okSs ck exs code body = true) (hN : ck.N = N) (hsc : ck.sc = scope)
    (hl : ck.lin.all (fun i => decide (ps.length ≤ i)) = true) (hfs : Γ.map (·.1) = ck.fs) (hcs : C.map (·.1) = ck.cs) (htr : trs = ck.trs) {y : Str} (hm : mg y = some (.ref f)) (hb : Binds K fd ps []) (nf : frN.contains y = false := by decide) (nt : frT.contains y = false := by decide) :
    FnG P w K mg base ec (k + 1) y (fnD Γ C code N ps.length) :=
  ⟨ps.length, f, fd, ps, fun ds h => by unfold fnD; rw [if_neg h], fn_ok0 G ck code F S o hN hsc hl hfs hcs htr, hm, F.kp, hb, fun z => by (rw [nf] at z; cases z), fun z => by (rw [nt] at z; cases z)⟩
def AllG (P : Program) (w : World) (K : PySem.W.Frag) (mg : Str → Option Value) (base : Heap) (ec : Ex → Addr) (k : Nat) : Tbl → Prop
  | [] => True
  | p :: r => FnG P w K mg base ec k p.1 p.2 ∧ AllG P w K mg base ec k r
theorem AllG.get : ∀ {Γ : Tbl}, AllG P w K mg base ec k Γ → ∀ (n : Nat) (p : Str × (List D → Res D)), Γ[n]? = some p → FnG P w K mg base ec k p.1 p.2
  | [], _, n, p, h => by simp at h
  | q :: r, a, 0, p, h => by simp at h; subst h; exact a.1
  | q :: r, a, n + 1, p, h => AllG.get a.2 n p (by simpa using h)
def CnOk (_ : PySem.W.Frag) (mg : Str → Option Value) (p : Str × D) : Prop := ∃ u v, mg p.1 = some u ∧ RelV v u ∧ ∀ (K' : KK) H, Rep K' H v p.2
def AllC (K : PySem.W.Frag) (mg : Str → Option Value) : Cns → Prop
  | [] => True
  | p :: r => CnOk K mg p ∧ AllC K mg r
theorem AllC.get : ∀ {C : Cns}, AllC K mg C → ∀ (n : Nat) (p : Str × D), C[n]? = some p → CnOk K mg p
  | [], _, n, p, h => by simp at h
  | q :: r, a, 0, p, h => by simp at h; subst h; exact a.1
  | q :: r, a, n + 1, p, h => AllC.get a.2 n p (by simpa using h)
theorem cn_str {y z : Str} (h : ∃ t, mg y = some (.str z t)) : CnOk K mg (y, .str z.cps.toList) := by
  obtain ⟨t, e⟩ := h
  refine ⟨_, .str z, e, ⟨t, rfl⟩, fun K' H => ?_⟩
  have := Rep.str (K := K') (H := H) z.cps.toList
  rw [mkS_of] at this
  exact this
theorem cn_int {y : Str} {i : Int} (h : ∃ t, mg y = some (.int i t)) : CnOk K mg (y, .int i) := by
  obtain ⟨t, e⟩ := h
  exact ⟨_, .int i, e, ⟨t, rfl⟩, fun _ H => .int i⟩
theorem glb_of (a : AllG P w K mg base ec k Γ) (c : AllC K mg C) (fr : ∀ y ∈ fnames, mg y = none) (rs : ∀ e ∈ exs, RsG K mg (ec e) e.nm) (tr : ∀ d ∈ trs, TrG P w K mg base ec k d) : Glb P w K mg base ec k Γ C exs trs := ⟨a.get, fun n p h => let ⟨u, v, h1, h2, h3⟩ := c.get n p h; ⟨u, v, h1, h2, h3 _⟩, fr, rs, tr⟩
theorem rs_of {h : Heap} (X : K.In h) (G : h.Ns mainGlobals mg) {y : Str} (c : (He.Fa.exc y).ok K = true) (g : (He.Fa.glo y).ok K = true) : RsG K mg (He.ga K y) y := by
  obtain ⟨c1, c2, c3, c4⟩ := He.exc_ok c
  exact ⟨_, _, _, _, PySem.F.excBase_ValueError, c1, He.glo_ok X G g, c2, c3, c4⟩
end
abbrev ecA (K : PySem.W.Frag) : Ex → Addr := fun e => He.ga K e.nm
def ecB (K : PySem.W.Frag) (D : Addr) : Bool :=
  He.eqO (PySem.W.findIn K (.ref D) "__getattribute__") (some (some (.builtin "BaseException.__getattribute__"))) && He.eqO (PySem.W.findIn K (.ref D) "__getattr__") (some none) &&
  decide (PySem.W.subIn K (.ref D) (.type "BaseException") = some true) && PySem.W.hasDictIn K D && He.eqO (PySem.W.findIn K (.ref D) "__class__") (some (some (.builtin "object.__class__"))) &&
  He.eqO (PySem.W.specialIn K (.builtin "object.__class__") "__get__") (some (some (.builtin "getset_descriptor.__get__"))) && decide (PySem.W.takesIn K (.builtin "object.__class__") = some true) && decide (PySem.W.mroIn K D (.type "object") = some true)
theorem ecB_ok {K : PySem.W.Frag} {D : Addr} (h : ecB K D = true) : ExcC K D := by
  unfold ecB at h
  simp only [Bool.and_eq_true, decide_eq_true_eq] at h
  obtain ⟨⟨⟨⟨⟨⟨⟨h1, h2⟩, h3⟩, h4⟩, h5⟩, h6⟩, h7⟩, h8⟩ := h
  exact ⟨He.eqO_ok h1, He.eqO_ok h2, h3, h4, He.eqO_ok h5, He.eqO_ok h6, h7, h8⟩
def exB (es l : List Ex) (ms : List (Option Ex)) (K : PySem.W.Frag) : Bool :=
  l.all (fun e => ecB K (ecA K e) && decide (PySem.W.kitOne K (.ref (ecA K e)) (.type "ValueError") = some true) && l.all fun e' => decide (PySem.W.kitOne K (.ref (ecA K e)) (.ref (ecA K e')) = some (decide (e = e')))) &&
  ms.all fun m => es.all fun e => decide (PySem.W.exmOne K (.ref (ecA K e)) (.ref (He.ga K (catNm m))) = some (caught m e))
section
variable {P : Program} {w : World} {K : PySem.W.Frag} {mg : Str → Option Value} {base : Heap} {es l l' : List Ex} {ms : List (Option Ex)} {k : Nat}
theorem exF_of (x : exB es l ms K = true) (gl : ∀ e ∈ l, mg e.nm = some (.ref (ecA K e))) (b1 : mg "isinstance" = none) (b2 : mg "ValueError" = none) (hl : ∀ e ∈ l', e ∈ l) : ExF K mg (ecA K) l' := by
  unfold exB at x
  simp only [Bool.and_eq_true, List.all_eq_true, decide_eq_true_eq] at x
  exact ⟨fun e he => ecB_ok (x.1 e (hl e he)).1.1, fun e he e' he' => (x.1 e (hl e he)).2 e' (hl e' he'), fun e he => (x.1 e (hl e he)).1.2, fun e he => gl e (hl e he), b1, b2⟩
theorem exB_m (x : exB es l ms K = true) {m : Option Ex} (hm : m ∈ ms) : ∀ e ∈ es, PySem.W.exmOne K (.ref (ecA K e)) (.ref (He.ga K (catNm m))) = some (caught m e) := by
  unfold exB at x
  simp only [Bool.and_eq_true, List.all_eq_true, decide_eq_true_eq] at x
  exact x.2 m hm
theorem FnE.mono {j : Nat} {f : Addr} {fd : FuncData} {ps : List Str} {sp : Addr × Obj → VK → Hp → Prop} (F : FnE P w K mg base j f fd ps sp) (h : j ≤ k) : FnE P w K mg base k f fd ps sp :=
  ⟨F.one, fun A outer s H args p Q hr => F.run A outer s H args p Q (hr.mono h)⟩
theorem trg_ref (x : exB es l ms K = true) {m : Option Ex} (hm : m ∈ ms) (gl : mg (catNm m) = some (.ref (He.ga K (catNm m)))) {i : Nat} {f : Str} {fa : Addr} {fd : FuncData} {ps : List Str} (F : FnE P w K mg base k fa fd ps (spRef (ecA K) l')) (hf : mg f = some (.ref fa))
    (kp : PySem.W.keepIn K (.ref fa) = true) (b : Binds K fd ps []) (o : l'.all (fun e => flOk l' e (l'.idxOf e)) = true) : TrG P w K mg base (ecA K) k ⟨m, es, .ref i f l'⟩ :=
  ⟨⟨_, gl, exB_m x hm⟩, ⟨⟨fa, fd, ps, F, hf, kp, b⟩, fun e he => List.all_eq_true.mp o e he⟩⟩
end
abbrev AlX : Type := Bool × He.AlD
def obsX (fa : List He.Fa) (fn : List He.DefD) (es l : List Ex) (ms : List (Option Ex)) (K : PySem.W.Frag) : AlX := (exB es l ms K, He.obsD fa fn K)
def obsXG (n : Nat) (fa : List He.Fa) (fn : List He.DefD) (es l : List Ex) (ms : List (Option Ex)) (g : Addr → Option Obj) : AlX := obsX fa fn es l ms (He.frG g (He.asD g n))
def hookX (n : Nat) (fa : List He.Fa) (fn : List He.DefD) (es l : List Ex) (ms : List (Option Ex)) : PySem.W.Hook where
  α := AlX
  obs := fun s => obsXG n fa fn es l ms s.heap.get?
  val := fun _ => (true, He.valD fn)
  says := fun _ h => ∃ K : PySem.W.Frag, K.In h ∧ He.SaysD fa fn K ∧ exB es l ms K = true
  of := fun _ _ e => ⟨_, He.frG_in, congrArg Prod.snd e, congrArg Prod.fst e⟩
  keeps := fun _ _ _ ⟨K, hK, c⟩ k => ⟨K, PySem.W.Frag.In.keeps hK k, c⟩
theorem obsXG_eq {n : Nat} {fa : List He.Fa} {fn : List He.DefD} {es l : List Ex} {ms : List (Option Ex)} {g : Addr → Option Obj} {s : Shared} (h : ∀ a, g a = s.heap.get? a) : obsXG n fa fn es l ms g = (hookX n fa fn es l ms).obs s := by
  have e : g = s.heap.get? := funext h
  rw [e] <;> rfl
def CXe (P : Program) : CXT := fun outer H s E u s' => ∃ w, L2.CX P w outer H s E u s'
theorem fn_cx {P : Program} {w : World} {K : PySem.W.Frag} {mg : Str → Option Value} {base : Heap} {k : Nat} {f : Addr} {fd : FuncData} {ps : List Str} {sp : Sp} (F : FnOk P w K mg base (L2.CX P w) k f fd ps sp) : FnOk P w K mg base (CXe P) k f fd ps sp :=
  ⟨F.len, fun A outer s H args us vs Q E hr he hb hv hs => codeAny_mono (F.run A outer s H args us vs Q E hr he hb hv hs) fun r s' h => by
    cases r with
    | ok x => cases x <;> exact h
    | error e => exact ⟨w, h⟩⟩
theorem cxe_end {P : Program} : ∀ (H : Hp) (s : Shared) (e : Value) (s' : Shared), CXe P [] H s (fun _ _ _ => False) e s' → False := by
  rintro H s e s' ⟨w, a, B, H', cls, d, _, _, _, _, _, _, _, z⟩
  exact z
end PLq
namespace PLq
open PySem L2
section
variable {P : Program} {w : World} {K : PySem.W.Frag} {mg : Str → Option Value} {base : Heap} {ec : Ex → Addr} {k : Nat} {Γ : Tbl} {C : Cns} {exs : List Ex} {trs : List TrD} {x qual : Str} {params : Arguments} {body : List Stmt} {scope : Scope} {f : Addr} {fd : FuncData} {ps N : List Str}
def apS : Sds → Sds → Sds
  | .nil, b => b
  | .cons a r, b => .cons a (apS r b)
def plS : Sd → Bool
  | .kill _ => false
  | c => nrS c
def plSs : Sds → Bool
  | .nil => true
  | .cons a r => plS a && plSs r
theorem plS_nr : ∀ {a : Sd}, plS a = true → nrS a = true := fun {a} h => by
  cases a <;> first | exact h | exact Bool.noConfusion h
theorem runs_ap (b : Sds) : ∀ (a : Sds) (ρ : Env), runs Γ C (apS a b) ρ = (runs Γ C a ρ).then (runs Γ C b)
  | .nil, ρ => by simp only [apS, runs]; rfl
  | .cons a r, ρ => by
    simp only [apS, runs]
    cases run Γ C a ρ with
    | nx ρ1 => exact runs_ap b r ρ1
    | ret d => rfl
    | exc e => rfl
    | stuck => rfl
theorem okSs_ap {ck : Ck} (b : Sds) : ∀ (a : Sds) (sts : List Stmt), plSs a = true → okSs ck exs (apS a b) sts = true → ∃ s1 s2, sts = s1 ++ s2 ∧ okSs ck exs a s1 = true ∧ okSs ck exs b s2 = true
  | .nil, sts, _, o => ⟨[], sts, rfl, by simp only [okSs], o⟩
  | .cons a r, sts, pl, o => by
    simp only [plSs, Bool.and_eq_true] at pl
    have go : ∀ (s : Stmt) (ss : List Stmt), okS ck exs a s = true → okSs ck exs (apS r b) ss = true → (∀ t, okS ck exs a s = true → okSs ck exs r t = true → okSs ck exs (.cons a r) (s :: t) = true) → ∃ s1 s2, s :: ss = s1 ++ s2 ∧ okSs ck exs (.cons a r) s1 = true ∧ okSs ck exs b s2 = true := fun s ss h1 h2 h3 => by
      obtain ⟨s1, s2, e, k1, k2⟩ := okSs_ap b r ss pl.2 h2
      exact ⟨s :: s1, s2, by rw [e]; rfl, h3 _ h1 k1, k2⟩
    cases a with
    | kill is => exact Bool.noConfusion pl.1
    | frzB i c => exact Bool.noConfusion pl.1
    | fapp j n xs z => exact Bool.noConfusion pl.1
    | _ =>
      cases sts with
      | nil => exact Bool.noConfusion o
      | cons s ss =>
        simp only [apS, okSs, Bool.and_eq_true] at o
        exact go s ss o.1 o.2 fun t k1 k2 => by simp only [okSs, k1, k2, Bool.and_self]
def tPre (K : KK) (lin : List Nat) (W : Wsh) (f : Env → Out) (T2 : TS) : TS := fun DE σ H => ∃ H0 own0 B own ρ, OkS K H0 own0 B lin own σ H ρ ∧
  match f ρ with
  | .nx ρ' => ∀ own' σ' H', OkS K H0 own0 B lin own' σ' H' ρ' → T2 DE σ' H'
  | .exc e => ∀ σ' H', Same H0 H' → W e σ' H'
  | _ => False
theorem pre_S {X : Cx} {ck : Ck} {W : WX} {T2 : TS} {s2 : List Stmt} (h : XS X ck ec W Γ C exs) (h2 : PSs X s2 T2) : ∀ (a : Sds) (s1 : List Stmt), plSs a = true → okSs ck exs a s1 = true → PSs X (s1 ++ s2) (tPre X.KK ck.lin (wsh ec W) (runs Γ C a) T2)
  | .nil, [], _, o => h2.imp fun DE σ H ⟨H0, own0, B, own, ρ, g, p⟩ => by
    simp only [runs] at p
    exact p own σ H g
  | .nil, _ :: _, _, o => Bool.noConfusion o
  | .cons a r, sts, pl, o => by
    simp only [plSs, Bool.and_eq_true] at pl
    have go : ∀ (s : Stmt) (ss : List Stmt), okS ck exs a s = true → okSs ck exs r ss = true → PSs X (s :: ss ++ s2) (tPre X.KK ck.lin (wsh ec W) (runs Γ C (.cons a r)) T2) := fun s ss k1 k2 => by
      refine (pss_cons (snd1 a s h k1) (pre_S h h2 r ss pl.2 k2)).imp fun DE σ H ⟨H0, own0, B, own, ρ, g, p⟩ => ⟨H0, own0, B, own, ρ, g, ?_⟩
      simp only [runs] at p
      cases q : run Γ C a ρ with
      | nx ρ1 =>
        simp only [q, Out.then] at p
        exact fun own1 σ1 H1 g1 => ⟨H0, own0, B, own1, ρ1, g1, p⟩
      | ret d => exact absurd q (nr_S a (plS_nr pl.1) ρ)
      | exc e => simp only [q, Out.then] at p; exact p
      | stuck => simp only [q, Out.then] at p
    cases a with
    | kill is => exact Bool.noConfusion pl.1
    | frzB i c => exact Bool.noConfusion pl.1
    | fapp j n xs z => exact Bool.noConfusion pl.1
    | _ =>
      cases sts with
      | nil => exact Bool.noConfusion o
      | cons s ss =>
        simp only [okSs, Bool.and_eq_true] at o
        exact go s ss o.1 o.2
abbrev lastP (i j : Nat) : Sds := .cons (.frzB i (.cons (.ret (.tup (.cons (.var i) (.cons (.var j) .nil)))) .nil)) .nil
theorem okSs_2 {ck : Ck} {i j : Nat} {sts : List Stmt} (o : okSs ck exs (lastP i j) sts = true) :
    ∃ (x : Str) (p1 : Pos) (y : Str) (p2 : Pos) (k : Nat) (p3 pos : Pos), sts = [.Return (some (.Tuple [.Name x p1, .Name y p2] k p3)) pos] ∧ ck.slot i x = true ∧ ck.slot j y = true ∧ (!(less ck.lin i).contains j) = true := by
  simp only [lastP, okSs] at o
  cases sts with
  | nil => exact Bool.noConfusion o
  | cons s r =>
    simp only [okSs, Bool.and_eq_true] at o
    obtain ⟨o1, o2⟩ := o
    cases r with
    | cons _ _ => exact Bool.noConfusion o2
    | nil =>
      cases s with
      | Return e pos =>
        cases e with
        | none => exact Bool.noConfusion o1
        | some e =>
          cases e with
          | Tuple es k p3 =>
            simp only [okS, okE] at o1
            cases es with
            | nil => exact Bool.noConfusion o1
            | cons e1 es =>
              simp only [oks, Bool.and_eq_true] at o1
              cases es with
              | nil => exact Bool.noConfusion o1.2
              | cons e2 es =>
                cases es with
                | cons _ _ => simp only [oks, Bool.and_eq_true] at o1; exact Bool.noConfusion o1.2.2
                | nil =>
                  simp only [oks, Bool.and_eq_true] at o1
                  obtain ⟨⟨a1, _⟩, ⟨a2, _⟩, _⟩ := o1
                  cases e1 with
                  | Name x p1 =>
                    cases e2 with
                    | Name y p2 =>
                      simp only [okE, Bool.and_eq_true] at a1 a2
                      exact ⟨x, p1, y, p2, k, p3, pos, rfl, a1.1, a2.1, a2.2⟩
                    | _ => exact Bool.noConfusion a2
                  | _ => exact Bool.noConfusion a1
          | _ => exact Bool.noConfusion o1
      | _ => exact Bool.noConfusion o1
theorem less_of {lin : List Nat} {i j : Nat} (hij : i ≠ j) (h : (!(less lin i).contains j) = true) : j ∉ lin := fun z => by
  have : j ∈ less lin i := by
    unfold less
    exact List.mem_filter.mpr ⟨z, by simp [Ne.symm hij]⟩
  rw [List.contains_iff_mem.mpr this] at h
  cases h
theorem fn_okT0 {pre code : Sds} {i j : Nat} (hc : code = apS pre (lastP i j)) (pl : plSs pre = true) (hij : i ≠ j) (G : Glb P w K mg base ec k Γ C exs trs) (ck : Ck) (F : FunD K x qual params body scope [] [] f fd) (S : FnScope N ps scope) (o : okSs ck exs code body = true) (hN : ck.N = N) (hsc : ck.sc = scope)
    (hi : ck.lin.contains i = true) (hl : ck.lin.all (fun i => decide (ps.length ≤ i)) = true) (hfs : Γ.map (·.1) = ck.fs) (hcs : C.map (·.1) = ck.cs) (htr : trs = ck.trs) :
    FnOk P w K mg base (L2.CX P w) (k + 1) f fd ps (spT ⟨K, P, w⟩ ec ps.length (fnD Γ C code N ps.length)) := by
  subst hc
  refine FunD.ok F S (fun vs H Q E h => ?_) fun cdv A outer s H vs Q E hr h => ?_
  · obtain ⟨own, ds, h1, h2, h3, _⟩ := h
    rw [h2.length]; exact h3
  · have XX := xs_of (E := E) (A := A) (outer := outer) (s := s) (H := H) (cdv := cdv) (f := f) (qual := qual) G S hN hsc hfs hcs htr hr
    obtain ⟨s1, s2, eb, o1, o2⟩ := okSs_ap (lastP i j) pre body pl o
    obtain ⟨x1, p1, y1, p2, kk, p3, pos, e2, v1, v2, nj⟩ := okSs_2 o2
    subst eb e2
    have lj := less_of hij nj
    have li : i ∈ ck.lin := List.contains_iff_mem.mp hi
    refine ⟨_, pre_S XX (pss_cons (ps_ret (pe_tupF (pa_cons (XX.ok.var v1) (pa_cons (XX.ok.var v2) pa_nil (star_plain rfl _ _)) (star_plain rfl _ _)))) pss_nil) pre s1 pl o1, ?_⟩
    obtain ⟨own, ds, h1, h2, h3, h4⟩ := h
    have hl' : ∀ i ∈ ck.lin, ds.length ≤ i := fun i hi => by
      have := List.all_eq_true.mp hl i hi
      rw [h3]; exact of_decide_eq_true this
    obtain ⟨gd, nw⟩ := gd_start (N := N) h1 h2 hl'
    unfold fnD at h4
    rw [if_pos h3, runs_ap] at h4
    refine ⟨H, own, hid own H, own, startD N ds, ⟨gd, fun _ h => h, h1, Same.refl _, fun i a d hi _ e => absurd e (nw i a hi), Same.refl _⟩, ?_⟩
    cases q1 : runs Γ C pre (startD N ds) with
    | stuck => simp only [q1, Out.then] at h4
    | ret d => exact absurd q1 (nr_Ss pre (by
        have : ∀ a : Sds, plSs a = true → nrSs a = true := fun a => by
          induction a using Sds.rec (motive_1 := fun _ => True) with
          | nil => exact fun _ => rfl
          | cons a r _ ih =>
            intro h
            simp only [plSs, Bool.and_eq_true] at h
            simp only [nrSs, Bool.and_eq_true]
            exact ⟨plS_nr h.1, ih h.2⟩
          | _ => trivial
        exact this pre pl) _)
    | exc e => simp only [q1, Out.then] at h4; exact fun σ1 H1 s => h4 H1 s
    | nx ρ2 =>
      simp only [q1, Out.then] at h4
      intro own2 σ2 H2 g2
      cases q2 : ρ2[i]? with
      | none => simp only [lastP, runs, run, ev, evs, q2, Res.bind, resO, Out.then, freed] at h4
      | some z =>
        cases z with
        | none => simp only [lastP, runs, run, ev, evs, q2, Res.bind, resO, Out.then, freed] at h4
        | some di =>
          cases q3 : ρ2[j]? with
          | none => simp only [lastP, runs, run, ev, evs, q2, q3, Res.bind, resO, Out.then, freed] at h4
          | some z =>
            cases z with
            | none => simp only [lastP, runs, run, ev, evs, q2, q3, Res.bind, resO, Out.then, freed] at h4
            | some dj =>
              simp only [lastP, runs, run, ev, evs, q2, q3, Res.bind, resO, Out.then, freed] at h4
              obtain ⟨a, ob, b1, b2, b3, b4⟩ := g2.gd.lob i di q2 li
              obtain ⟨v, c1, c2⟩ := g2.gd.val j dj q3 lj
              have na := g2.new i a di li q2 b1
              refine ⟨.ref a, b1, v, c1, by rw [← szL_eq]; exact (by decide : 2 ≤ szL), fun p op hp ho => ?_⟩
              have su := same_upd (o := HO.frz op (.tup [.ref a, v])) hp
              have nown : ∀ {b : Addr}, H b = none → b ∉ own := fun {b} hb z => by
                obtain ⟨o, e⟩ := h1 b z
                rw [hb] at e; cases e
              have hpn : H p = none := by
                cases z : H p with
                | none => rfl
                | some u => rw [g2.same _ _ z] at hp; cases hp
              have r1 : Rep ⟨K, P, w⟩ (hid own (upd H2 p (.frz op (.tup [.ref a, v])))) (.ref a) di := ((b4.mono (hid_sub g2.sub)).mono (hid_same su)).rep (hid_of (nown na) (su _ _ b3))
              have r2 : Rep ⟨K, P, w⟩ (hid own (upd H2 p (.frz op (.tup [.ref a, v])))) v dj := (c2.mono (hid_sub g2.sub)).mono (hid_same su)
              rw [if_pos (show ([di, dj] : List D).length ≤ szL from (by decide : 2 ≤ szL))] at h4
              exact h4 _ _ (g2.same.trans su) (.tup (hid_of (nown hpn) upd_same) ho (.cons r1 (.cons r2 .nil))) fun p' a' ws o' e1 e2 => by
                cases e1
                rw [upd_same] at e2
                cases e2
                exact na
theorem fn_okT {pre code : Sds} {i j : Nat} (hc : code = apS pre (lastP i j)) (pl : plSs pre = true) (hij : i ≠ j) (G : Glb P w K mg base ec k Γ C exs trs) (ck : Ck) (F : FunD K x qual params body scope [] [] f fd) (S : FnScope N ps scope) (o : okSs ck exs code body = true) (hN : ck.N = N) (hsc : ck.sc = scope)
    (hi : ck.lin.contains i = true) (hl : ck.lin.all (fun i => decide (ps.length ≤ i)) = true) (hfs : Γ.map (·.1) = ck.fs) (hcs : C.map (·.1) = ck.cs) (htr : trs = ck.trs) {y : Str} (hm : mg y = some (.ref f)) (hb : Binds K fd ps []) (nf : frN.contains y = false := by decide) :
    FnG P w K mg base ec (k + 1) y (fnD Γ C code N ps.length) :=
  have FF := fn_okT0 hc pl hij G ck F S o hN hsc hi hl hfs hcs htr
  ⟨ps.length, f, fd, ps, fun ds h => by unfold fnD; rw [if_neg h], FF.imp fun _ _ _ _ h => spT_of h, hm, F.kp, hb, fun z => by (rw [nf] at z; cases z), fun _ => FF⟩
end
end PLq
namespace PLq
open PySem L2
theorem whileN_step (c : Env → Res D) (b : Env → Out) (n : Nat) (ρ : Env) : whileN c b (n + 1) ρ = match c ρ with
    | .ok (.bl true) => (match b ρ with
      | .nx ρ2 => whileN c b n ρ2
      | o => some o)
    | .ok (.bl false) => some (.nx ρ)
    | .ok _ => some .stuck
    | .exc e => some (.exc e)
    | .stuck => some .stuck := by
  conv => lhs; unfold whileN
  all_goals
    cases c ρ with
    | ok d =>
      cases d with
      | bl k =>
        cases k with
        | true => cases b ρ <;> rfl
        | false => rfl
      | _ => rfl
    | _ => rfl
theorem while_go {c : Env → Res D} {b : Env → Out} {ρ ρ2 : Env} (h : c ρ = .ok (.bl true)) (hb : b ρ = .nx ρ2) : whileR c b ρ = whileR c b ρ2 := by
  rcases whileR_get (c := c) (b := b) (ρ := ρ2) with z | ⟨n, hn⟩
  · rcases whileR_get (c := c) (b := b) (ρ := ρ) with y | ⟨m, hm⟩
    · rw [y, z]
    · cases m with
      | zero => cases hm
      | succ m =>
        have h2 := hm
        rw [whileN_step, h] at h2
        simp only [hb] at h2
        rw [← whileR_of h2]
  · refine whileR_of (n := n + 1) ?_
    rw [whileN_step, h]
    simp only [hb]
    exact hn
theorem while_end {c : Env → Res D} {b : Env → Out} {ρ : Env} (h : c ρ = .ok (.bl false)) : whileR c b ρ = .nx ρ :=
  whileR_of (n := 1) (by rw [whileN_step, h])
@[simp] theorem bind_ok {α β : Type} (a : α) (f : α → Res β) : (Res.ok a).bind f = f a := rfl
@[simp] theorem bind_exc {α β : Type} (e : Ex) (f : α → Res β) : (Res.exc e : Res α).bind f = .exc e := rfl
@[simp] theorem then_nx (ρ : Env) (f : Env → Out) : (Out.nx ρ).then f = f ρ := rfl
@[simp] theorem then_ret (d : D) (f : Env → Out) : (Out.ret d).then f = .ret d := rfl
@[simp] theorem then_exc (e : Ex) (f : Env → Out) : (Out.exc e).then f = .exc e := rfl
@[simp] theorem resO_ok {α : Type} (a : α) (f : α → Out) : resO (.ok a) f = f a := rfl
@[simp] theorem resO_exc {α : Type} (e : Ex) (f : α → Out) : resO (.exc e) f = .exc e := rfl
@[simp] theorem tstO_ok (b : Bool) (f : Bool → Out) : tstO (.ok (.bl b)) f = f b := rfl
@[simp] theorem tstO_exc (e : Ex) (f : Bool → Out) : tstO (.exc e) f = .exc e := rfl
@[simp] theorem tst_ok {α : Type} (b : Bool) (f : Bool → Res α) : tst (.ok (.bl b)) f = f b := rfl
@[simp] theorem tst_exc {α : Type} (e : Ex) (f : Bool → Res α) : tst (.exc e) f = .exc e := rfl
@[simp] theorem ofO_some {α : Type} (a : α) : ofO (some a) = .ok a := rfl
@[simp] theorem atI_0 {α : Type} (x : α) (xs : List α) : atI (x :: xs) 0 = some x := by
  have h : (0 : Int) < (xs.length : Int) + 1 := by omega
  simp [atI, ixN, h]
@[simp] theorem atI_1 {α : Type} (x y : α) (xs : List α) : atI (x :: y :: xs) 1 = some y := by
  have h : (1 : Int) < (xs.length : Int) + 1 + 1 := by omega
  simp [atI, ixN, h]
@[simp] theorem atI_2 {α : Type} (x y z : α) (xs : List α) : atI (x :: y :: z :: xs) 2 = some z := by
  have h : (2 : Int) < (xs.length : Int) + 1 + 1 + 1 := by omega
  simp [atI, ixN, h]
theorem atI_nat {α : Type} (xs : List α) (i : Nat) (h : i < xs.length) : atI xs (i : Int) = some xs[i] := by
  simp [atI, ixN, h]
theorem for_go {tg : Tg} {b : Env → Out} : ∀ (ds : List D) (P : Nat → Env → Prop) {ρ : Env} (k : Nat), P k ρ → (∀ i d ρ, ds[i]? = some d → P (k + i) ρ → ∃ ρ1 ρ2, assignTg tg d ρ = some ρ1 ∧ b ρ1 = .nx ρ2 ∧ P (k + i + 1) ρ2) → ∃ ρ', forR tg b ds ρ = .nx ρ' ∧ P (k + ds.length) ρ'
  | [], P, ρ, k, h, _ => ⟨ρ, rfl, h⟩
  | d :: ds, P, ρ, k, h, s => by
    obtain ⟨ρ1, ρ2, h1, h2, h3⟩ := s 0 d ρ rfl h
    obtain ⟨ρ', h4, h5⟩ := for_go ds P (k + 1) (ρ := ρ2) h3 fun i d ρ hd hp => by
      have := s (i + 1) d ρ (by simpa using hd) (by rw [show k + (i + 1) = k + 1 + i by omega]; exact hp)
      rw [show k + (i + 1) + 1 = k + 1 + i + 1 by omega] at this
      exact this
    refine ⟨ρ', ?_, by rw [List.length_cons, show k + (ds.length + 1) = k + 1 + ds.length by omega]; exact h5⟩
    unfold forR
    rw [h1]
    simp only [h2, then_nx]
    exact h4
end PLq
namespace PLq
open PySem L2
def lenG {α : Type} (n : Nat) (r : Res α) : Res α := if n ≤ szL then r else .stuck
theorem lenG_ok {α : Type} {n : Nat} {r : Res α} (h : n ≤ 100000) : lenG n r = r := by
  unfold lenG
  rw [if_pos (Nat.le_trans h (by decide))]
theorem lenG_0 {α : Type} (r : Res α) : lenG 0 r = r := lenG_ok (by decide)
theorem lenG_1 {α : Type} (r : Res α) : lenG 1 r = r := lenG_ok (by decide)
theorem lenG_2 {α : Type} (r : Res α) : lenG 2 r = r := lenG_ok (by decide)
theorem lenG_3 {α : Type} (r : Res α) : lenG 3 r = r := lenG_ok (by decide)
theorem lenG_4 {α : Type} (r : Res α) : lenG 4 r = r := lenG_ok (by decide)
theorem lenG_5 {α : Type} (r : Res α) : lenG 5 r = r := lenG_ok (by decide)
theorem lenG_6 {α : Type} (r : Res α) : lenG 6 r = r := lenG_ok (by decide)
theorem lenG_7 {α : Type} (r : Res α) : lenG 7 r = r := lenG_ok (by decide)
theorem lenG_8 {α : Type} (r : Res α) : lenG 8 r = r := lenG_ok (by decide)
theorem lenG_9 {α : Type} (r : Res α) : lenG 9 r = r := lenG_ok (by decide)
theorem lenG_10 {α : Type} (r : Res α) : lenG 10 r = r := lenG_ok (by decide)
theorem lenG_11 {α : Type} (r : Res α) : lenG 11 r = r := lenG_ok (by decide)
theorem lenG_12 {α : Type} (r : Res α) : lenG 12 r = r := lenG_ok (by decide)
theorem lenG_13 {α : Type} (r : Res α) : lenG 13 r = r := lenG_ok (by decide)
theorem lenG_14 {α : Type} (r : Res α) : lenG 14 r = r := lenG_ok (by decide)
def slot (ρ : Env) (i : Nat) : Res D := match ρ[i]? with
  | some (some d) => .ok d
  | _ => .stuck
theorem slot_0 (d : D) (r : Env) : slot (some d :: r) 0 = .ok d := Eq.trans rfl rfl
theorem slot_s (x : Option D) (r : Env) (i : Nat) : slot (x :: r) (i + 1) = slot r i := by
  unfold slot
  rw [List.getElem?_cons_succ]
theorem bind_k {α β : Type} (a : α) (f : α → Res β) : (Res.ok a).bind f = f a := Eq.trans rfl rfl
theorem bind_e {α β : Type} (e : Ex) (f : α → Res β) : (Res.exc e : Res α).bind f = .exc e := Eq.trans rfl rfl
theorem ofO_k {α : Type} (a : α) : ofO (some a) = .ok a := Eq.trans rfl rfl
theorem resO_k {α : Type} (a : α) (f : α → Out) : resO (.ok a) f = f a := Eq.trans rfl rfl
theorem resO_e {α : Type} (e : Ex) (f : α → Out) : resO (.exc e) f = .exc e := Eq.trans rfl rfl
theorem tstO_k (b : Bool) (f : Bool → Out) : tstO (.ok (.bl b)) f = f b := Eq.trans rfl rfl
theorem tstO_e (e : Ex) (f : Bool → Out) : tstO (.exc e) f = .exc e := Eq.trans rfl rfl
theorem tst_k {α : Type} (b : Bool) (f : Bool → Res α) : tst (.ok (.bl b)) f = f b := Eq.trans rfl rfl
theorem tst_e {α : Type} (e : Ex) (f : Bool → Res α) : tst (.exc e) f = .exc e := Eq.trans rfl rfl
theorem then_n (ρ : Env) (f : Env → Out) : (Out.nx ρ).then f = f ρ := Eq.trans rfl rfl
theorem then_r (d : D) (f : Env → Out) : (Out.ret d).then f = .ret d := Eq.trans rfl rfl
theorem then_e (e : Ex) (f : Env → Out) : (Out.exc e).then f = .exc e := Eq.trans rfl rfl
def outR : Out → Res D
  | .nx _ => .ok .non
  | .ret d => .ok d
  | .exc e => .exc e
  | .stuck => .stuck
theorem out_n (ρ : Env) : outR (.nx ρ) = .ok .non := Eq.trans rfl rfl
theorem out_r (d : D) : outR (.ret d) = .ok d := Eq.trans rfl rfl
theorem out_e (e : Ex) : outR (.exc e) = .exc e := Eq.trans rfl rfl
theorem fn_eq (Γ : Tbl) (C : Cns) (code : Sds) (N : List Str) (n : Nat) (ds : List D) (h : ds.length = n) : fnD Γ C code N n ds = outR (runs Γ C code (startD N ds)) := by
  unfold fnD
  rw [if_pos h]
  cases runs Γ C code (startD N ds) <;> rfl
def ifO (b : Bool) (x y : Out) : Out := match b with
  | true => x
  | false => y
theorem ifO_t (x y : Out) : ifO true x y = x := Eq.trans rfl rfl
theorem ifO_f (x y : Out) : ifO false x y = y := Eq.trans rfl rfl
def ifR {α : Type} (b : Bool) (x y : Res α) : Res α := match b with
  | true => x
  | false => y
theorem ifR_t {α : Type} (x y : Res α) : ifR true x y = x := Eq.trans rfl rfl
theorem ifR_f {α : Type} (x y : Res α) : ifR false x y = y := Eq.trans rfl rfl
def optR {α β : Type} (o : Option α) (f : α → Res β) : Res β := match o with
  | some a => f a
  | none => .stuck
theorem optR_k {α β : Type} (a : α) (f : α → Res β) : optR (some a) f = f a := Eq.trans rfl rfl
def optO {α : Type} (o : Option α) (f : α → Out) : Out := match o with
  | some a => f a
  | none => .stuck
theorem optO_k {α : Type} (a : α) (f : α → Out) : optO (some a) f = f a := Eq.trans rfl rfl
def lcT (c : Res D) (r : Res (Option D)) : Res (Option D) := match c with
  | .ok (.bl true) => r
  | .ok (.bl false) => .ok none
  | _ => .stuck
theorem lcT_t (r : Res (Option D)) : lcT (.ok (.bl true)) r = r := Eq.trans rfl rfl
theorem lcT_f (r : Res (Option D)) : lcT (.ok (.bl false)) r = .ok none := Eq.trans rfl rfl
def lcV (r : Res D) : Res (Option D) := match r with
  | .ok y => .ok (some y)
  | .exc x => .exc x
  | .stuck => .stuck
theorem lcV_k (y : D) : lcV (.ok y) = .ok (some y) := Eq.trans rfl rfl
theorem lcV_e (x : Ex) : lcV (.exc x) = .exc x := Eq.trans rfl rfl
theorem noX_k {α : Type} (a : α) : noX (.ok a) = .ok a := Eq.trans rfl rfl
def lcF (tg : Tg) (c e : Env → Res D) (ρ : Env) : D → Res (Option D) := fun d => optR (assignTg tg d ρ) fun ρ1 => lcT (c ρ1) (lcV (e ρ1))
theorem lcF_fun (tg : Tg) (c e : Env → Res D) (ρ : Env) : lcF tg c e ρ = fun d => optR (assignTg tg d ρ) fun ρ1 => lcT (c ρ1) (lcV (e ρ1)) := Eq.trans rfl rfl
def lcM {α : Type} (F : α → Res (Option D)) : List α → Res (List D)
  | [] => .ok []
  | a :: l => match F a with
    | .ok (some y) => (lcM F l).bind fun ys => .ok (y :: ys)
    | .ok none => lcM F l
    | .exc x => .exc x
    | .stuck => .stuck
theorem lcR_eq (tg : Tg) (c e : Env → Res D) (ρ : Env) : ∀ ds : List D, lcR tg c e ρ ds = lcM (lcF tg c e ρ) ds
  | [] => rfl
  | d :: ds => by
    unfold lcR lcM lcF
    cases assignTg tg d ρ with
    | none => rfl
    | some ρ1 =>
      simp only [optR]
      rw [lcR_eq tg c e ρ ds]
      cases c ρ1 with
      | ok b =>
        cases b with
        | bl k =>
          cases k with
          | true => cases e ρ1 <;> rfl
          | false => rfl
        | _ => rfl
      | _ => rfl
theorem lcM_map {α β : Type} (F : β → Res (Option D)) (f : α → β) : ∀ l : List α, lcM F (l.map f) = lcM (fun a => F (f a)) l
  | [] => rfl
  | a :: l => by
    rw [List.map_cons]
    unfold lcM
    rw [lcM_map F f l]
theorem lcM_congr {α : Type} {F G : α → Res (Option D)} : ∀ {l : List α}, (∀ a ∈ l, F a = G a) → lcM F l = lcM G l
  | [], _ => rfl
  | a :: l, h => by
    unfold lcM
    rw [h a List.mem_cons_self, lcM_congr (l := l) fun b hb => h b (List.mem_cons_of_mem _ hb)]
theorem lcM_some {α : Type} (h : α → D) : ∀ l : List α, lcM (fun a => .ok (some (h a))) l = .ok (l.map h)
  | [] => rfl
  | a :: l => by
    unfold lcM
    rw [lcM_some h l]; rfl
theorem lcM_filt {α : Type} (k : α → Bool) (h : α → D) : ∀ l : List α, lcM (fun a => lcT (.ok (.bl (k a))) (.ok (some (h a)))) l = .ok ((l.filter k).map h)
  | [] => rfl
  | a :: l => by
    unfold lcM
    rw [lcM_filt k h l]
    cases q : k a with
    | true => rw [lcT_t, List.filter_cons_of_pos q]; rfl
    | false => rw [lcT_f, List.filter_cons_of_neg (by rw [q]; decide)]
theorem lcM_is {α : Type} {F : α → Res (Option D)} {h : α → D} {l : List α} (q : ∀ a ∈ l, F a = .ok (some (h a))) : lcM F l = .ok (l.map h) := (lcM_congr q).trans (lcM_some h l)
theorem lcM_fl {α : Type} {F : α → Res (Option D)} {k : α → Bool} {h : α → D} {l : List α} (q : ∀ a ∈ l, F a = lcT (.ok (.bl (k a))) (.ok (some (h a)))) : lcM F l = .ok ((l.filter k).map h) := (lcM_congr q).trans (lcM_filt k h l)
def dkR {α : Type} (d : D) (f : List (D × D) → Res α) : Res α := match d with
  | .dk kvs => f kvs
  | _ => .stuck
theorem dkR_k {α : Type} (kvs : List (D × D)) (f : List (D × D) → Res α) : dkR (.dk kvs) f = f kvs := Eq.trans rfl rfl
def lstO (d : D) (f : List D → Out) : Out := match d with
  | .lst xs => f xs
  | _ => .stuck
theorem lstO_k (xs : List D) (f : List D → Out) : lstO (.lst xs) f = f xs := Eq.trans rfl rfl
def lenO (n : Nat) (o : Out) : Out := if n ≤ szL then o else .stuck
theorem lenO_ok {n : Nat} {o : Out} (h : n ≤ 100000) : lenO n o = o := by
  unfold lenO
  rw [if_pos (Nat.le_trans h (by decide))]
theorem as_name (i : Nat) (d : D) (ρ : Env) : assignTg (.name i) d ρ = some (ρ.set i (some d)) := Eq.trans (by simp only [assignTg]) rfl
theorem as_tup2 (a b : Tg) (x y : D) (ρ : Env) : assignTg (.tup2 a b) (.tup [x, y]) ρ = (assignTg a x ρ).bind fun ρ1 => assignTg b y ρ1 := Eq.trans (by simp only [assignTg]) rfl
def isN (ρ : Env) (i : Nat) : Bool := match ρ[i]? with
  | some (some _) => false
  | _ => true
theorem isN_0 (r : Env) : isN (none :: r) 0 = true := Eq.trans rfl rfl
theorem isN_s (x : Option D) (r : Env) (i : Nat) : isN (x :: r) (i + 1) = isN r i := by
  unfold isN
  rw [List.getElem?_cons_succ]
theorem freed_n (i : Nat) (ρ : Env) : freed i (.nx ρ) = ifO (isN ρ i) (.nx ρ) .stuck := by
  unfold freed isN
  simp only
  cases ρ[i]? with
  | none => rfl
  | some z => cases z <;> rfl
theorem freed_r (i : Nat) (d : D) : freed i (.ret d) = .ret d := Eq.trans rfl rfl
theorem freed_e (i : Nat) (e : Ex) : freed i (.exc e) = .exc e := Eq.trans rfl rfl
section
variable (Γ : Tbl) (C : Cns) (ρ : Env)
theorem ev_var (i : Nat) : ev Γ C (.var i) ρ = slot ρ i := by simp only [ev]; rfl
theorem ev_lvar (i : Nat) : ev Γ C (.lvar i) ρ = slot ρ i := by simp only [ev]; rfl
theorem ev_int (i : Int) : ev Γ C (.int i) ρ = .ok (.int i) := Eq.trans (by simp only [ev]) rfl
theorem ev_str (x : T) : ev Γ C (.str x) ρ = .ok (.str x) := Eq.trans (by simp only [ev]) rfl
theorem ev_bl (b : Bool) : ev Γ C (.bl b) ρ = .ok (.bl b) := Eq.trans (by simp only [ev]) rfl
theorem ev_non  : ev Γ C (.non ) ρ = .ok .non := Eq.trans (by simp only [ev]) rfl
theorem ev_gstr (n : Nat) : ev Γ C (.gstr n) ρ = C.at n := Eq.trans (by simp only [ev]) rfl
theorem ev_gint (n : Nat) : ev Γ C (.gint n) ρ = C.at n := Eq.trans (by simp only [ev]) rfl
theorem ev_bin (o : Op2) (a b : Cd) : ev Γ C (.bin o a b) ρ = (ev Γ C a ρ).bind fun x => (ev Γ C b ρ).bind fun y => ofO (opD o x y) := Eq.trans (by simp only [ev]) rfl
theorem ev_neg (a : Cd) : ev Γ C (.neg a) ρ = (ev Γ C a ρ).bind fun x => ofO (negD x) := Eq.trans (by simp only [ev]) rfl
theorem ev_cmp (c : Cmp) (a b : Cd) : ev Γ C (.cmp c a b) ρ = (ev Γ C a ρ).bind fun x => (ev Γ C b ρ).bind fun y => ofO (cmpD c x y) := Eq.trans (by simp only [ev]) rfl
theorem ev_and (a b : Cd) : ev Γ C (.and a b) ρ = tst (ev Γ C a ρ) fun k => ifR k (tst (ev Γ C b ρ) fun k2 => .ok (.bl k2)) (.ok (.bl false)) := by
  simp only [ev]
  congr 1
  funext k
  cases k <;> rfl
theorem ev_or (a b : Cd) : ev Γ C (.or a b) ρ = tst (ev Γ C a ρ) fun k => ifR k (.ok (.bl true)) (tst (ev Γ C b ρ) fun k2 => .ok (.bl k2)) := by
  simp only [ev]
  congr 1
  funext k
  cases k <;> rfl
theorem ev_not (a : Cd) : ev Γ C (.not a) ρ = tst (ev Γ C a ρ) fun k => .ok (.bl (!k)) := Eq.trans (by simp only [ev]) rfl
theorem ev_ite (c a b : Cd) : ev Γ C (.ite c a b) ρ = tst (ev Γ C c ρ) fun k => ifR k (ev Γ C a ρ) (ev Γ C b ρ) := by
  simp only [ev]
  congr 1
  funext k
  cases k <;> rfl
theorem ev_tup (xs : Cds) : ev Γ C (.tup xs) ρ = (evs Γ C xs ρ).bind fun ds => lenG ds.length (.ok (.tup ds)) := by
  simp only [ev]; rfl
theorem ev_lst (xs : Cds) : ev Γ C (.lst xs) ρ = (evs Γ C xs ρ).bind fun ds => lenG ds.length (.ok (.lst ds)) := by
  simp only [ev]; rfl
theorem ev_dnewT  : ev Γ C (.dnewT ) ρ = .ok (.dkT []) := Eq.trans (by simp only [ev]) rfl
theorem ev_dnew  : ev Γ C (.dnew ) ρ = .ok (.dk []) := Eq.trans (by simp only [ev]) rfl
theorem ev_idx (a i : Cd) : ev Γ C (.idx a i) ρ = (ev Γ C a ρ).bind fun x => (ev Γ C i ρ).bind fun y => ofO (idxD x y) := Eq.trans (by simp only [ev]) rfl
theorem ev_sl0 (a l : Cd) : ev Γ C (.sl0 a l) ρ = (ev Γ C a ρ).bind fun x => (ev Γ C l ρ).bind fun l => (ofO (optI l)).bind fun l => ofO (slD x (some l) none) := Eq.trans (by simp only [ev]) rfl
theorem ev_sl1 (a l : Cd) : ev Γ C (.sl1 a l) ρ = (ev Γ C a ρ).bind fun x => (ev Γ C l ρ).bind fun h => (ofO (optI h)).bind fun h => ofO (slD x none (some h)) := Eq.trans (by simp only [ev]) rfl
theorem ev_sl2 (a l r : Cd) : ev Γ C (.sl2 a l r) ρ = (ev Γ C a ρ).bind fun x => (ev Γ C l ρ).bind fun l => (ofO (optI l)).bind fun l => (ev Γ C r ρ).bind fun h => (ofO (optI h)).bind fun h => ofO (slD x (some l) (some h)) := Eq.trans (by simp only [ev]) rfl
theorem ev_isi (t : Ty) (a : Cd) : ev Γ C (.isi t a) ρ = (ev Γ C a ρ).bind fun x => .ok (.bl (isiD t x)) := Eq.trans (by simp only [ev]) rfl
theorem ev_bif (b : Bif) (xs : Cds) : ev Γ C (.bif b xs) ρ = (evs Γ C xs ρ).bind fun ds => ofO (bifD b ds) := Eq.trans (by simp only [ev]) rfl
theorem ev_met (m : Met) (a : Cd) (xs : Cds) : ev Γ C (.met m a xs) ρ = (ev Γ C a ρ).bind fun x => ifR (recvOk m x) ((evs Γ C xs ρ).bind fun ds => ofO (metD m x ds)) .stuck := by
  simp only [ev]
  congr 1
  funext x
  cases recvOk m x <;> rfl
theorem ev_xop (o : XOp) (xs : Cds) : ev Γ C (.xop o xs) ρ = (evs Γ C xs ρ).bind fun ds => ofO (xopD o ds) := Eq.trans (by simp only [ev]) rfl
theorem ev_call (n : Nat) (xs : Cds) : ev Γ C (.call n xs) ρ = (evs Γ C xs ρ).bind fun ds => Γ.fn n ds := Eq.trans (by simp only [ev]) rfl
theorem ev_call0 (n : Nat) : ev Γ C (.call0 n) ρ = Γ.fn n [] := Eq.trans (by simp only [ev]) rfl
theorem ev_callL (n : Nat) (xs : Cds) : ev Γ C (.callL n xs) ρ = (evs Γ C xs ρ).bind fun ds => (Γ.fn n ds).bind flatR := Eq.trans (by simp only [ev]) rfl
theorem ev_fcall (ns : List Nat) (w : Cd) (xs : Cds) : ev Γ C (.fcall ns w xs) ρ = (ev Γ C w ρ).bind fun y => (ofO (selN ns y)).bind fun n => (evs Γ C xs ρ).bind fun ds => Γ.fn n ds := Eq.trans (by simp only [ev]) rfl
theorem ev_lc (own : List Nat) (tg : Tg) (it : It) (c e : Cd) : ev Γ C (.lc own tg it c e) ρ = (evi Γ C it ρ).bind fun ds => lenG ds.length ((lcM (lcF tg (ev Γ C c) (ev Γ C e) (wipeD ρ own)) ds).bind fun ys => .ok (.lst ys)) := by
  simp only [ev, lcR_eq]; rfl
theorem ev_lcD (own : List Nat) (tg : Tg) (i : Nat) (c e : Cd) : ev Γ C (.lcD own tg i c e) ρ = (slot ρ i).bind fun d => dkR d fun kvs => lenG (kvs.map (·.1)).length ((noX (lcM (lcF tg (ev Γ C c) (ev Γ C e) (wipeD ρ own)) (kvs.map (·.1)))).bind fun ys => .ok (.lst ys)) := by
  simp only [ev, lcR_eq]
  unfold keysD slot
  cases ρ[i]? with
  | none => rfl
  | some z =>
    cases z with
    | none => rfl
    | some d => cases d <;> rfl
theorem ev_get3 (a k x : Cd) : ev Γ C (.get3 a k x) ρ = (ev Γ C a ρ).bind fun d => (ofO (dkOf d)).bind fun kvs => (ev Γ C k ρ).bind fun y => (ev Γ C x ρ).bind fun z => ofO (dget3 kvs y z) := Eq.trans (by simp only [ev]) rfl
theorem ev_dget (a k : Cd) : ev Γ C (.dget a k) ρ = (ev Γ C a ρ).bind fun d => (ev Γ C k ρ).bind fun y => dkR d fun kvs => ofO (dget kvs y) := by simp only [ev]; rfl
theorem evs_nil : evs Γ C .nil ρ = .ok [] := Eq.trans (by simp only [evs]) rfl
theorem evs_cons (a : Cd) (r : Cds) : evs Γ C (.cons a r) ρ = (ev Γ C a ρ).bind fun x => (evs Γ C r ρ).bind fun xs => .ok (x :: xs) := Eq.trans (by simp only [evs]) rfl
theorem evi_of (a : Cd) : evi Γ C (.of a) ρ = (ev Γ C a ρ).bind fun x => ofO (itemsD x) := Eq.trans (by simp only [evi]) rfl
theorem evi_rng1 (a : Cd) : evi Γ C (.rng1 a) ρ = (ev Γ C a ρ).bind fun x => ofO (rng1D x) := Eq.trans (by simp only [evi]) rfl
theorem evi_rng2 (a b : Cd) : evi Γ C (.rng2 a b) ρ = (ev Γ C a ρ).bind fun x => (ev Γ C b ρ).bind fun y => ofO (rng2D x y) := Eq.trans (by simp only [evi]) rfl
theorem evi_zip (a b : Cd) : evi Γ C (.zip a b) ρ = (ev Γ C a ρ).bind fun x => (ev Γ C b ρ).bind fun y => ofO (zipB x y) := Eq.trans (by simp only [evi]) rfl
theorem evi_enum (a : Cd) : evi Γ C (.enum a) ρ = (ev Γ C a ρ).bind fun x => ofO (enumD x) := Eq.trans (by simp only [evi]) rfl
theorem ev_chain (c1 c2 : Cmp) (a b c : Cd) : ev Γ C (.chain c1 c2 a b c) ρ = (ev Γ C a ρ).bind fun x => (ev Γ C b ρ).bind fun y => tst (ofO (cmpD c1 x y)) fun k => ifR k ((ev Γ C c ρ).bind fun z => ofO (cmpD c2 y z)) (.ok (.bl false)) := by
  simp only [ev]
  congr 1
  funext x
  congr 1
  funext y
  cases ofO (cmpD c1 x y) with
  | ok d =>
    cases d with
    | bl k => cases k <;> rfl
    | _ => rfl
  | _ => rfl
theorem run_set (i : Nat) (c : Cd) : run Γ C (.set i c) ρ = resO (ev Γ C c ρ) fun d => .nx (ρ.set i (some d)) := Eq.trans (by simp only [run]) rfl
theorem run_setF (i : Nat) (c : Cd) : run Γ C (.setF i c) ρ = resO (ev Γ C c ρ) fun d => .nx (ρ.set i (some d)) := Eq.trans (by simp only [run]) rfl
theorem run_par (i j : Nat) (a b : Cd) : run Γ C (.par i j a b) ρ = resO (ev Γ C a ρ) fun x => resO (ev Γ C b ρ) fun y => .nx ((ρ.set i (some x)).set j (some y)) := Eq.trans (by simp only [run]) rfl
theorem run_ret (c : Cd) : run Γ C (.ret c) ρ = resO (ev Γ C c ρ) fun d => .ret d := Eq.trans (by simp only [run]) rfl
theorem run_expr (c : Cd) : run Γ C (.expr c) ρ = resO (ev Γ C c ρ) fun _ => .nx ρ := Eq.trans (by simp only [run]) rfl
theorem run_doc : run Γ C .doc ρ = .nx ρ := Eq.trans (by simp only [run]) rfl
theorem run_rse (e : Ex) : run Γ C (.rse e) ρ = .exc e := Eq.trans (by simp only [run]) rfl
theorem run_ite (c : Cd) (a b : Sds) : run Γ C (.ite c a b) ρ = tstO (ev Γ C c ρ) fun k => ifO k (runs Γ C a ρ) (runs Γ C b ρ) := by
  simp only [run]
  congr 1
  funext k
  cases k <;> rfl
theorem run_whl (c : Cd) (b : Sds) : run Γ C (.whl c b) ρ = whileR (ev Γ C c) (runs Γ C b) ρ := Eq.trans (by simp only [run]) rfl
theorem run_loop (tg : Tg) (it : It) (b : Sds) : run Γ C (.loop tg it b) ρ = resO (evi Γ C it ρ) fun ds => forR tg (runs Γ C b) ds ρ := Eq.trans (by simp only [run]) rfl
theorem evi_rng3 (a b c : Cd) : evi Γ C (.rng3 a b c) ρ = (ev Γ C a ρ).bind fun x => (ev Γ C b ρ).bind fun y => (ev Γ C c ρ).bind fun z => ofO (rng3D x y z) := Eq.trans (by simp only [evi]) rfl
theorem run_retL (i : Nat) : run Γ C (.retL i) ρ = resO (slot ρ i) fun d => .ret d := by
  simp only [run]
  unfold slot
  cases ρ[i]? with
  | none => rfl
  | some z => cases z <;> rfl
theorem run_unp (tg : Tg) (c : Cd) : run Γ C (.unp tg c) ρ = resO (ev Γ C c ρ) fun d => optO (assignTg tg d ρ) fun ρ1 => .nx ρ1 := by
  simp only [run]
  congr 1
  funext d
  cases assignTg tg d ρ <;> rfl
def lst3O (d : D) (f : D → D → D → Out) : Out := match d with
  | .lst [x, y, z] => f x y z
  | _ => .stuck
theorem lst3_k (x y z : D) (f : D → D → D → Out) : lst3O (.lst [x, y, z]) f = f x y z := Eq.trans rfl rfl
theorem run_unp3 (i j k : Nat) (c : Cd) : run Γ C (.unp3 i j k c) ρ = resO (ev Γ C c ρ) fun d => lst3O d fun x y z => .nx (((ρ.set i (some x)).set j (some y)).set k (some z)) := by
  simp only [run]
  rfl
theorem run_app (i : Nat) (c : Cd) : run Γ C (.app i c) ρ = resO (slot ρ i) fun d => lstO d fun xs => resO (ev Γ C c ρ) fun d => lenO (xs.length + 1) (.nx (ρ.set i (some (.lst (xs ++ [d]))))) := by
  simp only [run]
  unfold slot
  cases ρ[i]? with
  | none => rfl
  | some z =>
    cases z with
    | none => rfl
    | some d => cases d <;> rfl
theorem run_ext (i : Nat) (c : Cd) : run Γ C (.ext i c) ρ = resO (slot ρ i) fun d => lstO d fun xs => resO (ev Γ C c ρ) fun d => lstO d fun ys => lenO (xs.length + ys.length) (.nx (ρ.set i (some (.lst (xs ++ ys))))) := by
  simp only [run]
  unfold slot
  cases ρ[i]? with
  | none => rfl
  | some z =>
    cases z with
    | none => rfl
    | some d =>
      cases d with
      | lst xs =>
        simp only [resO, lstO]
        cases ev Γ C c ρ with
        | ok d => cases d <;> rfl
        | _ => rfl
      | _ => rfl
theorem run_put (i : Nat) (k v : Cd) : run Γ C (.put i k v) ρ = resO (slot ρ i) fun o => resO (ev Γ C v ρ) fun y => resO (ev Γ C k ρ) fun x => optO (putO o x y) fun o2 => .nx (ρ.set i (some o2)) := by
  simp only [run]
  unfold slot
  cases ρ[i]? with
  | none => rfl
  | some z =>
    cases z with
    | none => rfl
    | some d =>
      simp only [resO]
      cases ev Γ C v ρ with
      | ok y =>
        simp only
        cases ev Γ C k ρ with
        | ok x => simp only; cases putO d x y <;> rfl
        | _ => rfl
      | _ => rfl
theorem run_setG (i : Nat) (c : Cd) : run Γ C (.setG i c) ρ = resO (ev Γ C c ρ) fun d => lstO d fun xs => .nx (ρ.set i (some (.lst xs))) := by
  simp only [run]
  congr 1
  funext d
  cases d <;> rfl
theorem run_kill (is : List Nat) : run Γ C (.kill is) ρ = .nx (wipeD ρ is) := Eq.trans (by simp only [run]) rfl
theorem run_tryX (d : TrD) (b : Sds) : run Γ C (.tryX [] d b) ρ = catchO d (runs Γ C b ρ) := by
  simp only [run]
  rfl
theorem catch_r (d : TrD) (x : D) : catchO d (.ret x) = .ret x := rfl
theorem catch_n (d : TrD) (ρ : Env) : catchO d (.nx ρ) = .nx ρ := rfl
def fapO (j : Nat) (ρ : Env) (d : D) : Out := match d with
    | .tup (.lst ys :: _) => if j < ρ.length ∧ ys.length < szL then .nx (ρ.set j none) else .stuck
    | _ => .stuck
theorem run_fap (j n : Nat) (xs : Cds) (z : T) : run Γ C (.fapp j n xs z) ρ = resO (evs Γ C xs ρ) fun ds => resO (Γ.fn n ds) fun d => fapO j ρ d := by simp only [run]; rfl
theorem fapO_ok {j : Nat} {ρ : Env} {ys ds : List D} (h1 : j < ρ.length) (h2 : ys.length ≤ 100000) : fapO j ρ (.tup (.lst ys :: ds)) = .nx (ρ.set j none) := by
  show (if j < ρ.length ∧ ys.length < szL then Out.nx (ρ.set j none) else .stuck) = _
  rw [if_pos ⟨h1, Nat.lt_of_le_of_lt h2 (by decide)⟩]
theorem run_frzB (i : Nat) (b : Sds) : run Γ C (.frzB i b) ρ = freed i (runs Γ C b ρ) := Eq.trans (by simp only [run]) rfl
theorem run_pop (i j : Nat) (c : Cd) : run Γ C (.pop i j c) ρ = resO (slot ρ j) fun d => lstO d fun xs => resO (ev Γ C c ρ) fun d => optO (popD xs d) fun p => .nx ((ρ.set j (some (.lst p.2))).set i (some p.1)) := by
  simp only [run]
  unfold slot
  cases ρ[j]? with
  | none => rfl
  | some z =>
    cases z with
    | none => rfl
    | some d =>
      cases d with
      | lst xs =>
        simp only [resO, lstO]
        cases ev Γ C c ρ with
        | ok d => simp only; cases popD xs d <;> rfl
        | _ => rfl
      | _ => rfl
theorem run_popx (j : Nat) (c : Cd) : run Γ C (.popx j c) ρ = resO (slot ρ j) fun d => lstO d fun xs => resO (ev Γ C c ρ) fun d => optO (popD xs d) fun p => .nx (ρ.set j (some (.lst p.2))) := by
  simp only [run]
  unfold slot
  cases ρ[j]? with
  | none => rfl
  | some z =>
    cases z with
    | none => rfl
    | some d =>
      cases d with
      | lst xs =>
        simp only [resO, lstO]
        cases ev Γ C c ρ with
        | ok d => simp only; cases popD xs d <;> rfl
        | _ => rfl
      | _ => rfl
theorem runs_nil : runs Γ C .nil ρ = .nx ρ := Eq.trans (by simp only [runs]) rfl
theorem runs_cons (a : Sd) (r : Sds) : runs Γ C (.cons a r) ρ = (run Γ C a ρ).then fun ρ1 => runs Γ C r ρ1 := Eq.trans (by simp only [runs]) rfl
end
theorem wipe_n (ρ : Env) : wipeD ρ [] = ρ := Eq.trans rfl rfl
theorem wipe_c (ρ : Env) (v : Nat) (vs : List Nat) : wipeD ρ (v :: vs) = (wipeD ρ vs).set v none := Eq.trans rfl rfl
theorem add_i (i j : Int) : opD .add (.int i) (.int j) = some (.int (i + j)) := Eq.trans rfl rfl
theorem sub_i (i j : Int) : opD .sub (.int i) (.int j) = some (.int (i - j)) := Eq.trans rfl rfl
theorem op_mul (x y : D) : opD .mul x y = mulD x y := Eq.trans rfl rfl
theorem op_mod (x y : D) : opD .mod x y = modD x y := Eq.trans rfl rfl
theorem op_div (x y : D) : opD .div x y = divD x y := Eq.trans rfl rfl
theorem add_s {x y : T} (h : x.length + y.length ≤ 100000) : opD .add (.str x) (.str y) = some (.str (x ++ y)) := by
  show (if x.length + y.length ≤ szL then some (D.str (x ++ y)) else none) = _
  rw [if_pos (Nat.le_trans h (by decide))]
theorem idx_l (ds : List D) (i : Int) : idxD (.lst ds) (.int i) = atI ds i := Eq.trans rfl rfl
theorem idx_t (ds : List D) (i : Int) : idxD (.tup ds) (.int i) = atI ds i := Eq.trans rfl rfl
theorem idx_c (ns : List Int) (i : Int) : idxD (.scr ns) (.int i) = (atI ns i).map D.int := Eq.trans rfl rfl
theorem idx_s {x : T} (i : Int) (h : x.length ≤ 100000) : idxD (.str x) (.int i) = (atI x i).map fun c => D.str [c] := by
  show (if x.length ≤ szL then (atI x i).map fun c => D.str [c] else none) = _
  rw [if_pos (Nat.le_trans h (by decide))]
theorem lt_i (i j : Int) : cmpD .lt (.int i) (.int j) = some (.bl (decide (i < j))) := Eq.trans rfl rfl
theorem le_i (i j : Int) : cmpD .le (.int i) (.int j) = some (.bl (decide (i ≤ j))) := Eq.trans rfl rfl
theorem gt_i (i j : Int) : cmpD .gt (.int i) (.int j) = some (.bl (decide (j < i))) := Eq.trans rfl rfl
theorem ge_i (i j : Int) : cmpD .ge (.int i) (.int j) = some (.bl (decide (j ≤ i))) := Eq.trans rfl rfl
theorem len_l (ds : List D) : bifD .len [.lst ds] = some (.int ds.length) := Eq.trans rfl rfl
theorem len_t (ds : List D) : bifD .len [.tup ds] = some (.int ds.length) := Eq.trans rfl rfl
theorem len_c (ds : List Int) : bifD .len [.scr ds] = some (.int ds.length) := Eq.trans rfl rfl
theorem len_s {x : T} (h : x.length ≤ 100000) : bifD .len [.str x] = some (.int x.length) := by
  show (if x.length ≤ szL then some (D.int x.length) else none) = _
  rw [if_pos (Nat.le_trans h (by decide))]
theorem tup_l (ds : List D) : bifD .tuple [.lst ds] = some (.tup ds) := Eq.trans rfl rfl
theorem tup_t (ds : List D) : bifD .tuple [.tup ds] = some (.tup ds) := Eq.trans rfl rfl
theorem items_l (ds : List D) : itemsD (.lst ds) = some ds := Eq.trans rfl rfl
theorem items_t (ds : List D) : itemsD (.tup ds) = some ds := Eq.trans rfl rfl
theorem items_s {x : T} (h : x.length ≤ 100000) : itemsD (.str x) = some (x.map fun c => D.str [c]) := by
  show (if x.length ≤ szL then some (x.map fun c => D.str [c]) else none) = _
  rw [if_pos (Nat.le_trans h (by decide))]
theorem optI_i (i : Int) : optI (.int i) = some i := Eq.trans rfl rfl
theorem sl_t (ds : List D) (lo hi : Option Int) : slD (.tup ds) lo hi = some (.tup (cutL ds lo hi)) := Eq.trans rfl rfl
theorem sl_l (ds : List D) (lo hi : Option Int) : slD (.lst ds) lo hi = some (.lst (cutL ds lo hi)) := Eq.trans rfl rfl
theorem sl_s {x : T} (lo hi : Option Int) (h : x.length ≤ 100000) : slD (.str x) lo hi = some (.str (cutL x lo hi)) := by
  show (if x.length ≤ szL then some (D.str (cutL x lo hi)) else none) = _
  rw [if_pos (Nat.le_trans h (by decide))]
theorem for_pre {α : Type} {tg : Tg} {b : Env → Out} (f : α → D) (E : List α → Env) : ∀ (l p : List α), (∀ q a r, p ++ l = q ++ a :: r → p.length ≤ q.length → ∃ ρ1, assignTg tg (f a) (E q) = some ρ1 ∧ b ρ1 = .nx (E (q ++ [a]))) → forR tg b (l.map f) (E p) = .nx (E (p ++ l))
  | [], p, _ => by rw [List.append_nil]; rfl
  | a :: l, p, h => by
    obtain ⟨ρ1, h1, h2⟩ := h p a l rfl (Nat.le_refl _)
    rw [List.map_cons]
    unfold forR
    rw [h1]
    simp only [h2]
    have := for_pre f E l (p ++ [a]) fun q c r e hl => h q c r (by rw [← e]; simp) (by simp at hl; omega)
    show forR tg b (l.map f) (E (p ++ [a])) = _
    rw [this, List.append_assoc]; rfl
theorem for_all {α : Type} {tg : Tg} {b : Env → Out} (f : α → D) (E : List α → Env) (l : List α) (h : ∀ q a r, l = q ++ a :: r → ∃ ρ1, assignTg tg (f a) (E q) = some ρ1 ∧ b ρ1 = .nx (E (q ++ [a]))) : forR tg b (l.map f) (E []) = .nx (E l) :=
  for_pre f E l [] fun q a r e _ => h q a r e
theorem for_id {α : Type} {tg : Tg} {b : Env → Out} (f : α → D) (ρ : Env) (l : List α) (h : ∀ a ∈ l, ∃ ρ1, assignTg tg (f a) ρ = some ρ1 ∧ b ρ1 = .nx ρ) : forR tg b (l.map f) ρ = .nx ρ :=
  for_all f (fun _ => ρ) l fun q a r e => h a (by rw [e]; simp)
theorem for_first {α : Type} {tg : Tg} {b : Env → Out} (f : α → D) (ρ : Env) (g : α → Option Out) (hg : ∀ a o, g a = some o → ∀ ρ2, o ≠ .nx ρ2) : ∀ (l : List α), (∀ a ∈ l, ∃ ρ1, assignTg tg (f a) ρ = some ρ1 ∧ b ρ1 = (g a).getD (.nx ρ)) →
    forR tg b (l.map f) ρ = (l.findSome? g).getD (.nx ρ)
  | [], _ => rfl
  | a :: l, h => by
    obtain ⟨ρ1, h1, h2⟩ := h a List.mem_cons_self
    rw [List.map_cons]
    unfold forR
    rw [h1]
    simp only [h2]
    cases q : g a with
    | none =>
      rw [List.findSome?_cons, q]
      exact for_first f ρ g hg l fun c hc => h c (List.mem_cons_of_mem _ hc)
    | some o =>
      rw [List.findSome?_cons, q]
      show o.then _ = o
      cases o with
      | nx ρ2 => exact absurd rfl (hg a _ q ρ2)
      | _ => rfl
end PLq
namespace Bk
abbrev Tx := List Nat
theorem lt_irr (x : Tx) : ¬ x < x := List.lt_irrefl x
theorem lt_tr {x y z : Tx} (h : x < y) (k : y < z) : x < z := List.lt_trans h k
theorem lt_as {x y : Tx} (h : x < y) : ¬ y < x := fun k => lt_irr x (lt_tr h k)
theorem lt_tri (x y : Tx) : x < y ∨ x = y ∨ y < x := by
  by_cases h : x < y
  · exact .inl h
  · by_cases k : y < x
    · exact .inr (.inr k)
    · exact .inr (.inl (List.le_antisymm (List.not_lt.mp k) (List.not_lt.mp h)))
abbrev Srt (l : List Tx) : Prop := l.Pairwise (· < ·)
theorem Srt.nodup {l : List Tx} (h : Srt l) : l.Nodup := h.imp fun {a b} (q : a < b) (e : a = b) => lt_irr a (by rw [← e] at q; exact q)
theorem Srt.ext {a b : List Tx} (ha : Srt a) (hb : Srt b) (h : ∀ x, x ∈ a ↔ x ∈ b) : a = b := by
  induction a generalizing b with
  | nil =>
    cases b with
    | nil => rfl
    | cons y b => exact absurd ((h y).mpr List.mem_cons_self) (by simp)
  | cons x a ih =>
    cases b with
    | nil => exact absurd ((h x).mp List.mem_cons_self) (by simp)
    | cons y b =>
      have ha1 := List.pairwise_cons.mp ha
      have hb1 := List.pairwise_cons.mp hb
      have e : x = y := by
        rcases List.mem_cons.mp ((h x).mp List.mem_cons_self) with e | hx
        · exact e
        · rcases List.mem_cons.mp ((h y).mpr List.mem_cons_self) with e | hy
          · exact e.symm
          · exact absurd (ha1.1 y hy) (lt_as (hb1.1 x hx))
      subst e
      rw [ih ha1.2 hb1.2 fun z => ?_]
      constructor
      · intro hz
        rcases List.mem_cons.mp ((h z).mp (List.mem_cons_of_mem _ hz)) with e | q
        · subst e; exact absurd (ha1.1 _ hz) (lt_irr _)
        · exact q
      · intro hz
        rcases List.mem_cons.mp ((h z).mpr (List.mem_cons_of_mem _ hz)) with e | q
        · subst e; exact absurd (hb1.1 _ hz) (lt_irr _)
        · exact q
def ins (x : Tx) : List Tx → List Tx
  | [] => [x]
  | y :: l => if y < x then y :: ins x l else x :: y :: l
def isort : List Tx → List Tx
  | [] => []
  | x :: l => ins x (isort l)
theorem ins_perm (x : Tx) : ∀ l, (ins x l).Perm (x :: l)
  | [] => List.Perm.refl _
  | y :: l => by
    unfold ins
    split
    · exact ((ins_perm x l).cons y).trans (List.Perm.swap ..)
    · exact List.Perm.refl _
theorem isort_perm : ∀ l, (isort l).Perm l
  | [] => List.Perm.refl _
  | x :: l => (ins_perm x _).trans ((isort_perm l).cons x)
abbrev Le (l : List Tx) : Prop := l.Pairwise fun x y => ¬ y < x
theorem ins_le (x : Tx) : ∀ {l : List Tx}, Le l → Le (ins x l)
  | [], _ => List.pairwise_singleton _ _
  | y :: l, h => by
    have h1 := List.pairwise_cons.mp h
    unfold ins
    split
    · rename_i q
      refine List.pairwise_cons.mpr ⟨fun z hz => ?_, ins_le x h1.2⟩
      rcases List.mem_cons.mp ((ins_perm x l).mem_iff.mp hz) with e | hz
      · subst e; exact lt_as q
      · exact h1.1 z hz
    · rename_i q
      refine List.pairwise_cons.mpr ⟨fun z hz => ?_, h⟩
      rcases List.mem_cons.mp hz with e | hz
      · subst e; exact q
      · intro k
        rcases lt_tri y x with r | r | r
        · exact q r
        · subst r; exact h1.1 z hz k
        · exact h1.1 z hz (lt_tr k r)
theorem isort_le : ∀ l, Le (isort l)
  | [] => List.Pairwise.nil
  | x :: l => ins_le x (isort_le l)
theorem le_srt {l : List Tx} (h : Le l) (n : l.Nodup) : Srt l := by
  refine List.Pairwise.imp₂ (R := fun x y => ¬ y < x) (S := fun x y => x ≠ y) (fun x y h1 h2 => ?_) h n
  rcases lt_tri x y with r | r | r
  · exact r
  · exact absurd r h2
  · exact absurd r h1
theorem isort_srt {l : List Tx} (n : l.Nodup) : Srt (isort l) := le_srt (isort_le l) ((isort_perm l).nodup_iff.mpr n)
theorem isort_mem {l : List Tx} {x : Tx} : x ∈ isort l ↔ x ∈ l := (isort_perm l).mem_iff
theorem isort_len (l : List Tx) : (isort l).length = l.length := (isort_perm l).length_eq
def lets (m : Nat) : Tx := [97, 98, 99, 100].take m
theorem lets_len {m : Nat} (h4 : m ≤ 4) : (lets m).length = m := by simp [lets]; omega
theorem lets_nodup (m : Nat) : (lets m).Nodup := by
  have : ([97, 98, 99, 100] : List Nat).Nodup := by decide
  exact this.sublist (List.take_sublist _ _)
def VT (m : Nat) (x : Tx) : Prop := ∀ c ∈ x, c ∈ lets m
theorem VT.nil (m : Nat) : VT m [] := fun c h => by cases h
theorem VT.app {m : Nat} {x y : Tx} (h : VT m x) (k : VT m y) : VT m (x ++ y) := fun c hc => (List.mem_append.mp hc).elim (h c) (k c)
theorem VT.one {m c : Nat} (h : c ∈ lets m) : VT m [c] := fun d hd => by
  have : d = c := by simpa using hd
  subst this; exact h
theorem VT.left {m : Nat} {x y : Tx} (h : VT m (x ++ y)) : VT m x := fun c hc => h c (List.mem_append_left _ hc)
theorem VT.right {m : Nat} {x y : Tx} (h : VT m (x ++ y)) : VT m y := fun c hc => h c (List.mem_append_right _ hc)
theorem VT.pre {m : Nat} {x y : Tx} (h : VT m y) (k : x <+: y) : VT m x := by
  obtain ⟨z, rfl⟩ := k; exact h.left
def Hd (b : List Tx) (x : Tx) : Prop := ∃ p ∈ b, x <+: p ∧ x ≠ p
structure BK (m : Nat) (b : List Tx) : Prop where
  two : 2 ≤ m
  four : m ≤ 4
  srt : Srt b
  vt : ∀ p ∈ b, VT m p
  ne : [] ∉ b
  pf : ∀ p ∈ b, ∀ q ∈ b, p <+: q → p = q
  cp : ∀ x, VT m x → (∃ p ∈ b, p <+: x) ∨ Hd b x
theorem pre_app_one {x y : Tx} {c : Nat} (h : x <+: y ++ [c]) : x <+: y ∨ x = y ++ [c] := by
  rw [List.prefix_concat_iff] at h
  rcases h with h | h
  · exact .inr h
  · exact .inl h
theorem pre_ne_len {x y : Tx} (h : x <+: y) (n : x ≠ y) : x.length < y.length := by
  rcases Nat.lt_or_ge x.length y.length with q | q
  · exact q
  · exact absurd (h.eq_of_length_le q) n
theorem pre_next {x y : Tx} (h : x <+: y) (n : x ≠ y) : ∃ c z, y = x ++ c :: z := by
  obtain ⟨z, rfl⟩ := h
  cases z with
  | nil => simp at n
  | cons c z => exact ⟨c, z, rfl⟩
section
variable {m : Nat} {b : List Tx} (B : BK m b)
include B
theorem BK.pos : 0 < (lets m).length := by
  have := B.two; have := B.four
  rw [lets_len B.four]; omega
theorem BK.hd_nil : Hd b [] := by
  rcases B.cp [] (VT.nil m) with ⟨p, hp, h⟩ | h
  · have : p = [] := List.prefix_nil.mp h
    subst this; exact absurd hp B.ne
  · exact h
theorem BK.hd_vt {x : Tx} (h : Hd b x) : VT m x := by
  obtain ⟨p, hp, h1, _⟩ := h
  exact (B.vt p hp).pre h1
theorem BK.not_both {x p : Tx} (h : Hd b x) (hp : p ∈ b) : ¬ p <+: x := by
  obtain ⟨q, hq, h1, h2⟩ := h
  intro h3
  have e := B.pf p hp q hq (h3.trans h1)
  subst e
  exact h2 (h1.eq_of_length_le h3.length_le)
theorem BK.hd_not_mem {x : Tx} (h : Hd b x) : x ∉ b := fun hx => B.not_both h hx (List.prefix_refl x)
theorem BK.uniq {p q x : Tx} (hp : p ∈ b) (hq : q ∈ b) (h1 : p <+: x) (h2 : q <+: x) : p = q := by
  rcases List.prefix_or_prefix_of_prefix h1 h2 with h | h
  · exact B.pf p hp q hq h
  · exact (B.pf q hq p hp h).symm
theorem BK.next {x : Tx} (h : Hd b x) {c : Nat} (hc : c ∈ lets m) : x ++ [c] ∈ b ∨ Hd b (x ++ [c]) := by
  rcases B.cp (x ++ [c]) ((B.hd_vt h).app (VT.one hc)) with ⟨p, hp, k⟩ | k
  · rcases pre_app_one k with k | k
    · exact absurd k (B.not_both h hp)
    · subst k; exact .inl hp
  · exact .inr k
omit B in
theorem Hd.up {x y : Tx} (h : Hd b y) (k : x <+: y) : Hd b x := by
  obtain ⟨p, hp, h1, h2⟩ := h
  exact ⟨p, hp, k.trans h1, fun e => h2 (by subst e; exact h1.eq_of_length_le k.length_le)⟩
omit B in
theorem hd_of_mem {x y : Tx} {c : Nat} (h : x ++ c :: y ∈ b) : Hd b x := ⟨_, h, List.prefix_append _ _, by simp⟩
theorem BK.hd_iff {x : Tx} (v : VT m x) : Hd b x ↔ ¬ ∃ p ∈ b, p <+: x :=
  ⟨fun h ⟨p, hp, k⟩ => B.not_both h hp k, fun h => (B.cp x v).resolve_left h⟩
theorem BK.ne_nil : b ≠ [] := by
  obtain ⟨p, hp, _⟩ := B.hd_nil
  exact List.ne_nil_of_mem hp
end
def first (m : Nat) : List Tx := (lets m).map fun c => [c]
theorem first_bk {m : Nat} (h2 : 2 ≤ m) (h4 : m ≤ 4) : BK m (first m) := by
  refine ⟨h2, h4, ?_, fun p hp => ?_, ?_, fun p hp q hq h => ?_, fun x v => ?_⟩
  · rcases show m = 2 ∨ m = 3 ∨ m = 4 by omega with rfl | rfl | rfl <;> decide
  · obtain ⟨c, hc, rfl⟩ := List.mem_map.mp hp
    exact VT.one hc
  · simp [first]
  · obtain ⟨c, hc, rfl⟩ := List.mem_map.mp hp
    obtain ⟨d, hd, rfl⟩ := List.mem_map.mp hq
    exact h.eq_of_length_le (by simp)
  · cases x with
    | nil =>
      right
      refine ⟨[97], ?_, List.nil_prefix, by simp⟩
      rcases show m = 2 ∨ m = 3 ∨ m = 4 by omega with rfl | rfl | rfl <;> decide
    | cons c x => exact .inl ⟨[c], List.mem_map.mpr ⟨c, v c List.mem_cons_self, rfl⟩, by simp⟩
theorem first_hd {m : Nat} (h2 : 2 ≤ m) (h4 : m ≤ 4) {x : Tx} : Hd (first m) x ↔ x = [] := by
  constructor
  · rintro ⟨p, hp, h1, h3⟩
    obtain ⟨c, hc, rfl⟩ := List.mem_map.mp hp
    have := pre_ne_len h1 h3
    simpa using this
  · rintro rfl
    exact (first_bk h2 h4).hd_nil
theorem eq_first {m : Nat} {b : List Tx} (B : BK m b) (h : ∀ x, Hd b x → x = []) : b = first m := by
  refine Srt.ext B.srt (first_bk B.two B.four).srt fun x => ⟨fun hx => ?_, fun hx => ?_⟩
  · match x, hx with
    | [], hx => exact absurd hx B.ne
    | [c], hx => exact List.mem_map.mpr ⟨c, B.vt _ hx c (by simp), rfl⟩
    | c :: d :: y, hx =>
      have := h [c] (hd_of_mem (b := b) (x := [c]) (c := d) (y := y) hx)
      simp at this
  · obtain ⟨c, hc, rfl⟩ := List.mem_map.mp hx
    rcases B.next B.hd_nil hc with k | k
    · exact k
    · have := h _ k; simp at this
def kids (m : Nat) (p : Tx) : List Tx := (lets m).map fun c => p ++ [c]
def part (m : Nat) (b : List Tx) (p : Tx) : List Tx := isort (b.filter (fun x => x ≠ p) ++ kids m p)
theorem kids_mem {m : Nat} {p x : Tx} : x ∈ kids m p ↔ ∃ c ∈ lets m, x = p ++ [c] := by
  unfold kids
  rw [List.mem_map]
  exact ⟨fun ⟨c, h, e⟩ => ⟨c, h, e.symm⟩, fun ⟨c, h, e⟩ => ⟨c, h, e.symm⟩⟩
theorem part_mem {m : Nat} {b : List Tx} {p x : Tx} : x ∈ part m b p ↔ (x ∈ b ∧ x ≠ p) ∨ ∃ c ∈ lets m, x = p ++ [c] := by
  unfold part
  rw [isort_mem, List.mem_append, List.mem_filter, kids_mem]
  simp
theorem kids_nodup (m : Nat) (p : Tx) : (kids m p).Nodup := by
  unfold kids
  refine List.pairwise_map.mpr ((lets_nodup m).imp fun {a b} h e => h ?_)
  simpa using e
section
variable {m : Nat} {b : List Tx} {p : Tx} (B : BK m b) (hp : p ∈ b)
include B hp
theorem BK.rest_nodup : (b.filter (fun x => x ≠ p) ++ kids m p).Nodup := by
  refine List.nodup_append.mpr ⟨B.srt.nodup.filter _, kids_nodup m p, ?_⟩
  intro x hx y hy e
  subst e
  obtain ⟨c, hc, rfl⟩ := kids_mem.mp hy
  have := B.pf p hp _ (List.mem_filter.mp hx).1 (List.prefix_append _ _)
  simp at this
theorem BK.part_hd {x : Tx} : Hd (part m b p) x ↔ Hd b x ∨ x = p := by
  constructor
  · rintro ⟨q, hq, h1, h2⟩
    rcases part_mem.mp hq with ⟨h3, h4⟩ | ⟨c, hc, rfl⟩
    · exact .inl ⟨q, h3, h1, h2⟩
    · rcases pre_app_one h1 with k | k
      · by_cases e : x = p
        · exact .inr e
        · exact .inl ⟨p, hp, k, e⟩
      · exact absurd k h2
  · rintro (⟨q, hq, h1, h2⟩ | rfl)
    · by_cases e : q = p
      · subst e
        obtain ⟨c, hc⟩ := List.exists_mem_of_length_pos B.pos
        exact ⟨q ++ [c], part_mem.mpr (.inr ⟨c, hc, rfl⟩), h1.trans (List.prefix_append _ _), fun z => by
          have := h1.length_le; rw [z] at this; simp at this; omega⟩
      · exact ⟨q, part_mem.mpr (.inl ⟨hq, e⟩), h1, h2⟩
    · obtain ⟨c, hc⟩ := List.exists_mem_of_length_pos B.pos
      exact ⟨x ++ [c], part_mem.mpr (.inr ⟨c, hc, rfl⟩), List.prefix_append _ _, by simp⟩
theorem BK.part : BK m (part m b p) := by
  refine ⟨B.two, B.four, isort_srt (B.rest_nodup hp), fun x hx => ?_, fun hx => ?_, fun x hx y hy h => ?_, fun x v => ?_⟩
  · rcases part_mem.mp hx with ⟨h, _⟩ | ⟨c, hc, rfl⟩
    · exact B.vt _ h
    · exact (B.vt _ hp).app (VT.one hc)
  · rcases part_mem.mp hx with ⟨h, _⟩ | ⟨c, hc, h⟩
    · exact B.ne h
    · simp at h
  · rcases part_mem.mp hx with ⟨h1, h2⟩ | ⟨c, hc, rfl⟩
    · rcases part_mem.mp hy with ⟨h3, h4⟩ | ⟨d, hd, rfl⟩
      · exact B.pf x h1 y h3 h
      · rcases pre_app_one h with k | k
        · exact absurd (B.pf x h1 p hp k) h2
        · exact k
    · rcases part_mem.mp hy with ⟨h3, h4⟩ | ⟨d, hd, rfl⟩
      · exact absurd (B.pf p hp y h3 ((List.prefix_append _ _).trans h)).symm h4
      · exact h.eq_of_length_le (by simp)
  · rcases B.cp x v with ⟨q, hq, h⟩ | h
    · by_cases e : q = p
      · subst e
        by_cases e2 : x = q
        · exact .inr ((B.part_hd hp).mpr (.inr e2))
        · obtain ⟨c, z, rfl⟩ := pre_next h (Ne.symm e2)
          exact .inl ⟨q ++ [c], part_mem.mpr (.inr ⟨c, v c (by simp), rfl⟩), by simp⟩
      · exact .inl ⟨q, part_mem.mpr (.inl ⟨hq, e⟩), h⟩
    · exact .inr ((B.part_hd hp).mpr (.inl h))
theorem BK.part_len : (Bk.part m b p).length + 1 = b.length + m := by
  unfold Bk.part
  rw [isort_len, List.length_append]
  have h1 : (kids m p).length = m := by unfold kids; rw [List.length_map, lets_len B.four]
  have h2 : (b.filter (fun x => x ≠ p)).length + 1 = b.length := by
    have h3 := List.length_erase_of_mem hp
    have h4 : b.erase p = b.filter (fun x => x ≠ p) := by
      rw [B.srt.nodup.erase_eq_filter]
      congr 1
      funext x
      by_cases e : x = p <;> simp [e]
    have := List.length_pos_of_mem hp
    rw [h4] at h3; omega
  omega
end
def isKid (h x : Tx) : Bool := decide (x.dropLast = h ∧ x ≠ [])
theorem isKid_iff {h x : Tx} : isKid h x = true ↔ ∃ c, x = h ++ [c] := by
  unfold isKid
  rw [decide_eq_true_eq]
  constructor
  · rintro ⟨h1, h2⟩
    exact ⟨x.getLast h2, by rw [← h1]; exact (List.dropLast_concat_getLast h2).symm⟩
  · rintro ⟨c, rfl⟩
    simp
def join (b : List Tx) (h : Tx) : List Tx := isort (b.filter (fun x => !isKid h x) ++ [h])
theorem join_mem {b : List Tx} {h x : Tx} : x ∈ join b h ↔ (x ∈ b ∧ ¬ ∃ c, x = h ++ [c]) ∨ x = h := by
  unfold join
  rw [isort_mem, List.mem_append, List.mem_filter, List.mem_singleton, Bool.not_eq_true', ← isKid_iff]
  simp
def Top (m : Nat) (b : List Tx) (h : Tx) : Prop := h ≠ [] ∧ ∀ c ∈ lets m, h ++ [c] ∈ b
section
variable {m : Nat} {b : List Tx} {h : Tx} (B : BK m b) (ht : Top m b h)
include B ht
theorem BK.top_hd : Hd b h := by
  obtain ⟨c, hc⟩ := List.exists_mem_of_length_pos B.pos
  exact ⟨h ++ [c], ht.2 c hc, List.prefix_append _ _, by simp⟩
theorem BK.join_hd {x : Tx} : Hd (join b h) x ↔ Hd b x ∧ x ≠ h := by
  have hh := B.top_hd ht
  constructor
  · rintro ⟨p, hp, h1, h2⟩
    rcases join_mem.mp hp with ⟨h3, h4⟩ | rfl
    · refine ⟨⟨p, h3, h1, h2⟩, fun e => ?_⟩
      subst e
      obtain ⟨c, z, e⟩ := pre_next h1 h2
      subst e
      have hc : c ∈ lets m := B.vt _ h3 c (by simp)
      have := B.pf _ (ht.2 c hc) _ h3 (by simp)
      exact h4 ⟨c, this.symm⟩
    · exact ⟨hh.up h1, h2⟩
  · rintro ⟨⟨p, hp, h1, h2⟩, h3⟩
    by_cases k : ∃ c, p = h ++ [c]
    · obtain ⟨c, rfl⟩ := k
      rcases pre_app_one h1 with k | k
      · exact ⟨h, join_mem.mpr (.inr rfl), k, h3⟩
      · exact absurd k h2
    · exact ⟨p, join_mem.mpr (.inl ⟨hp, k⟩), h1, h2⟩
theorem BK.join_nodup : (b.filter (fun x => !isKid h x) ++ [h]).Nodup := by
  refine List.nodup_append.mpr ⟨B.srt.nodup.filter _, by simp, ?_⟩
  intro x hx y hy e
  subst e
  have : x = h := by simpa using hy
  subst this
  exact B.hd_not_mem (B.top_hd ht) (List.mem_filter.mp hx).1
theorem BK.join : BK m (join b h) := by
  have hh := B.top_hd ht
  refine ⟨B.two, B.four, isort_srt (B.join_nodup ht), fun x hx => ?_, fun hx => ?_, fun x hx y hy k => ?_, fun x v => ?_⟩
  · rcases join_mem.mp hx with ⟨h1, _⟩ | rfl
    · exact B.vt _ h1
    · exact B.hd_vt hh
  · rcases join_mem.mp hx with ⟨h1, _⟩ | e
    · exact B.ne h1
    · exact ht.1 e.symm
  · rcases join_mem.mp hx with ⟨h1, h2⟩ | rfl
    · rcases join_mem.mp hy with ⟨h3, h4⟩ | rfl
      · exact B.pf x h1 y h3 k
      · exact absurd k (B.not_both hh h1)
    · rcases join_mem.mp hy with ⟨h3, h4⟩ | rfl
      · by_cases e : x = y
        · exact e
        · obtain ⟨c, z, rfl⟩ := pre_next k e
          have hc : c ∈ lets m := B.vt _ h3 c (by simp)
          exact absurd ⟨c, (B.pf _ (ht.2 c hc) _ h3 (by simp)).symm⟩ h4
      · rfl
  · rcases B.cp x v with ⟨p, hp, k⟩ | k
    · by_cases e : ∃ c, p = h ++ [c]
      · obtain ⟨c, rfl⟩ := e
        exact .inl ⟨h, join_mem.mpr (.inr rfl), (List.prefix_append _ _).trans k⟩
      · exact .inl ⟨p, join_mem.mpr (.inl ⟨hp, e⟩), k⟩
    · by_cases e : x = h
      · subst e; exact .inl ⟨x, join_mem.mpr (.inr rfl), List.prefix_refl _⟩
      · exact .inr ((B.join_hd ht).mpr ⟨k, e⟩)
theorem BK.part_join : Bk.part m (Bk.join b h) h = b := by
  have J := B.join ht
  have hm : h ∈ Bk.join b h := join_mem.mpr (.inr rfl)
  refine Srt.ext (J.part hm).srt B.srt fun x => ?_
  rw [part_mem, join_mem]
  constructor
  · rintro (⟨⟨h1, h2⟩ | rfl, h3⟩ | ⟨c, hc, rfl⟩)
    · exact h1
    · exact absurd rfl h3
    · exact ht.2 c hc
  · intro hx
    by_cases k : ∃ c, x = h ++ [c]
    · obtain ⟨c, rfl⟩ := k
      exact .inr ⟨c, B.vt _ hx c (by simp), rfl⟩
    · exact .inl ⟨.inl ⟨hx, k⟩, fun e => by subst e; exact B.hd_not_mem (B.top_hd ht) hx⟩
theorem BK.join_len : (Bk.join b h).length + m = b.length + 1 := by
  have := (B.join ht).part_len (p := h) (join_mem.mpr (.inr rfl))
  rw [B.part_join ht] at this
  omega
end
def pres (p : Tx) : List Tx := (List.range p.length).map fun k => p.take k
theorem pres_mem {p x : Tx} : x ∈ pres p ↔ x <+: p ∧ x ≠ p := by
  unfold pres
  rw [List.mem_map]
  constructor
  · rintro ⟨k, hk, rfl⟩
    have hk := List.mem_range.mp hk
    refine ⟨List.take_prefix _ _, fun e => ?_⟩
    have := congrArg List.length e
    rw [List.length_take] at this; omega
  · rintro ⟨h1, h2⟩
    exact ⟨x.length, List.mem_range.mpr (pre_ne_len h1 h2), (List.prefix_iff_eq_take.mp h1).symm⟩
def addN (l : List Tx) (x : Tx) : List Tx := if x ∈ l then l else l ++ [x]
def hdl (b : List Tx) : List Tx := (b.flatMap pres).foldl addN []
theorem addN_fold : ∀ (xs l : List Tx), l.Nodup → (xs.foldl addN l).Nodup ∧ ∀ x, x ∈ xs.foldl addN l ↔ x ∈ l ∨ x ∈ xs
  | [], l, h => ⟨h, fun x => by simp⟩
  | y :: xs, l, h => by
    rw [List.foldl_cons]
    have hn : (addN l y).Nodup := by
      unfold addN
      split
      · exact h
      · rename_i q
        refine List.nodup_append.mpr ⟨h, by simp, fun a ha c hc e => ?_⟩
        have : c = y := by simpa using hc
        subst this; subst e; exact q ha
    obtain ⟨h1, h2⟩ := addN_fold xs _ hn
    refine ⟨h1, fun x => ?_⟩
    rw [h2]
    have : x ∈ addN l y ↔ x ∈ l ∨ x = y := by
      unfold addN
      split
      · rename_i q
        exact ⟨.inl, fun z => z.elim id fun e => by subst e; exact q⟩
      · simp
    rw [this, List.mem_cons]
    constructor
    · rintro ((h | h) | h) <;> simp [h]
    · rintro (h | h | h) <;> simp [h]
theorem hdl_mem {b : List Tx} {x : Tx} : x ∈ hdl b ↔ Hd b x := by
  unfold hdl
  rw [(addN_fold _ [] List.nodup_nil).2]
  simp only [List.not_mem_nil, false_or, List.mem_flatMap, pres_mem]
  rfl
theorem hdl_nodup (b : List Tx) : (hdl b).Nodup := (addN_fold _ [] List.nodup_nil).1
def inn (b : List Tx) : List Tx := isort (hdl b)
theorem inn_srt (b : List Tx) : Srt (inn b) := isort_srt (hdl_nodup b)
theorem inn_mem {b : List Tx} {x : Tx} : x ∈ inn b ↔ Hd b x := by
  unfold inn
  rw [isort_mem, hdl_mem]
instance (b : List Tx) (x : Tx) : Decidable (Hd b x) := decidable_of_iff _ (hdl_mem (b := b) (x := x))
theorem perm_of_mem {a b : List Tx} (ha : a.Nodup) (hb : b.Nodup) (h : ∀ x, x ∈ a ↔ x ∈ b) : a.Perm b := by
  have e : isort a = isort b := Srt.ext (isort_srt ha) (isort_srt hb) fun x => by rw [isort_mem, isort_mem, h]
  exact (isort_perm a).symm.trans (by rw [e]; exact isort_perm b)
end Bk
namespace Bk
def maxLen (b : List Tx) : Nat := (b.map List.length).foldr Nat.max 0
theorem le_maxLen {b : List Tx} {p : Tx} (h : p ∈ b) : p.length ≤ maxLen b := by
  unfold maxLen
  induction b with
  | nil => cases h
  | cons q b ih =>
    simp only [List.map_cons, List.foldr_cons]
    rcases List.mem_cons.mp h with e | h
    · subst e; exact Nat.le_max_left _ _
    · exact Nat.le_trans (ih h) (Nat.le_max_right _ _)
theorem hd_len {b : List Tx} {x : Tx} (h : Hd b x) : x.length < maxLen b := by
  obtain ⟨p, hp, h1, h2⟩ := h
  exact Nat.lt_of_lt_of_le (pre_ne_len h1 h2) (le_maxLen hp)
theorem BK.deep {m : Nat} {b : List Tx} (B : BK m b) : ∀ (k : Nat) (x : Tx), Hd b x → maxLen b ≤ x.length + k → ∃ h, x <+: h ∧ Hd b h ∧ ∀ c ∈ lets m, h ++ [c] ∈ b
  | 0, x, hx, hk => by have := hd_len hx; omega
  | k + 1, x, hx, hk => by
    by_cases q : ∀ c ∈ lets m, x ++ [c] ∈ b
    · exact ⟨x, List.prefix_refl _, hx, q⟩
    · have : ∃ c, c ∈ lets m ∧ x ++ [c] ∉ b := by
        apply Classical.byContradiction
        intro z
        exact q fun c hc => Classical.byContradiction fun n => z ⟨c, hc, n⟩
      obtain ⟨c, hc, hn⟩ := this
      obtain ⟨h, h1, h2, h3⟩ := B.deep k (x ++ [c]) ((B.next hx hc).resolve_left hn) (by simp; omega)
      exact ⟨h, (List.prefix_append _ _).trans h1, h2, h3⟩
theorem BK.below {m : Nat} {b : List Tx} (B : BK m b) {x : Tx} (hx : Hd b x) : ∃ h, x <+: h ∧ Hd b h ∧ ∀ c ∈ lets m, h ++ [c] ∈ b :=
  B.deep (maxLen b) x hx (by omega)
theorem BK.cases {m : Nat} {b : List Tx} (B : BK m b) : b = first m ∨ ∃ h, Top m b h := by
  by_cases q : ∀ x, Hd b x → x = []
  · exact .inl (eq_first B q)
  · have : ∃ x, Hd b x ∧ x ≠ [] := by
      apply Classical.byContradiction
      intro z
      exact q fun x hx => Classical.byContradiction fun n => z ⟨x, hx, n⟩
    obtain ⟨x, hx, hn⟩ := this
    obtain ⟨h, h1, h2, h3⟩ := B.below hx
    exact .inr ⟨h, fun e => by subst e; exact hn (List.prefix_nil.mp h1), h3⟩
theorem BK.ind {m : Nat} {P : List Tx → Prop} (h0 : P (first m)) (hs : ∀ b p, BK m b → p ∈ b → P b → P (Bk.part m b p)) : ∀ {b : List Tx}, BK m b → P b := by
  have main : ∀ (n : Nat) (b : List Tx), BK m b → b.length ≤ n → P b := by
    intro n
    induction n with
    | zero =>
      intro b B h
      exact absurd (List.eq_nil_of_length_eq_zero (by omega)) B.ne_nil
    | succ n ih =>
      intro b B h
      rcases B.cases with rfl | ⟨t, ht⟩
      · exact h0
      · have l := B.join_len ht
        have := B.two
        have := hs _ t (B.join ht) (join_mem.mpr (.inr rfl)) (ih _ (B.join ht) (by omega))
        rwa [B.part_join ht] at this
  intro b B
  exact main b.length b B (Nat.le_refl _)
theorem inn_first {m : Nat} (h2 : 2 ≤ m) (h4 : m ≤ 4) : inn (first m) = [[]] := by
  refine Srt.ext (inn_srt _) (List.pairwise_singleton _ _) fun x => ?_
  rw [inn_mem, first_hd h2 h4]; simp
theorem BK.inn_part {m : Nat} {b : List Tx} {p : Tx} (B : BK m b) (hp : p ∈ b) : (inn (Bk.part m b p)).Perm (p :: inn b) := by
  refine perm_of_mem (inn_srt _).nodup ?_ fun x => ?_
  · refine List.nodup_cons.mpr ⟨fun h => B.hd_not_mem (inn_mem.mp h) hp, (inn_srt b).nodup⟩
  · rw [inn_mem, B.part_hd hp, List.mem_cons, inn_mem]
    exact ⟨fun h => h.symm, fun h => h.symm⟩
theorem first_len {m : Nat} (h4 : m ≤ 4) : (first m).length = m := by unfold first; rw [List.length_map, lets_len h4]
theorem BK.len {m : Nat} {b : List Tx} (B : BK m b) : b.length = 1 + (inn b).length * (m - 1) := by
  have h2 := B.two
  have h4 := B.four
  refine BK.ind (P := fun b => b.length = 1 + (inn b).length * (m - 1)) ?_ (fun b p B hp ih => ?_) B
  · rw [inn_first h2 h4, first_len h4]; simp; omega
  · have h1 := B.part_len hp
    rw [(B.inn_part hp).length_eq, List.length_cons, Nat.add_mul, Nat.one_mul]
    omega
theorem BK.part_perm {m : Nat} {b : List Tx} {p : Tx} (B : BK m b) (hp : p ∈ b) : ∃ r, b.Perm (p :: r) ∧ (Bk.part m b p).Perm (kids m p ++ r) := by
  refine ⟨b.filter (fun x => x ≠ p), ?_, ?_⟩
  · refine perm_of_mem B.srt.nodup ?_ fun x => ?_
    · refine List.nodup_cons.mpr ⟨fun h => ?_, B.srt.nodup.filter _⟩
      have := (List.mem_filter.mp h).2
      simp at this
    · rw [List.mem_cons, List.mem_filter]
      by_cases e : x = p
      · subst e; simp [hp]
      · simp [e]
  · exact (isort_perm _).trans List.perm_append_comm
def sumR {α : Type} (f : α → Rat) (l : List α) : Rat := l.foldr (fun x s => f x + s) 0
@[simp] theorem sumR_nil {α : Type} (f : α → Rat) : sumR f [] = 0 := rfl
@[simp] theorem sumR_cons {α : Type} (f : α → Rat) (x : α) (l : List α) : sumR f (x :: l) = f x + sumR f l := rfl
theorem sumR_app {α : Type} (f : α → Rat) (x y : List α) : sumR f (x ++ y) = sumR f x + sumR f y := by
  induction x with
  | nil => simp; grind
  | cons a x ih => simp only [List.cons_append, sumR_cons, ih]; grind
theorem sumR_perm {α : Type} (f : α → Rat) {x y : List α} (h : x.Perm y) : sumR f x = sumR f y := by
  induction h with
  | nil => rfl
  | cons a _ ih => simp [ih]
  | swap a b l => simp; grind
  | trans _ _ h1 h2 => exact h1.trans h2
def Fair (m : Nat) (w : Tx → Rat) : Prop := ∀ x, VT m x → sumR w (kids m x) = w x
theorem first_kids (m : Nat) : first m = kids m [] := by unfold first kids; simp
theorem BK.sum {m : Nat} {b : List Tx} (B : BK m b) {w : Tx → Rat} (F : Fair m w) : sumR w b = w [] := by
  refine BK.ind (P := fun b => sumR w b = w []) ?_ (fun b p B hp ih => ?_) B
  · rw [first_kids]; exact F [] (VT.nil m)
  · obtain ⟨r, h1, h2⟩ := B.part_perm hp
    rw [sumR_perm w h2, sumR_app, F p (B.vt p hp), ← ih, sumR_perm w h1, sumR_cons]
end Bk
namespace Bk
theorem BK.len_le {m : Nat} {b : List Tx} (B : BK m b) : ∀ p ∈ b, p.length ≤ (inn b).length := by
  have h2 := B.two
  have h4 := B.four
  refine BK.ind (P := fun b => ∀ p ∈ b, p.length ≤ (inn b).length) ?_ (fun b q B hq ih => ?_) B
  · intro p hp
    rw [inn_first h2 h4]
    obtain ⟨c, _, rfl⟩ := List.mem_map.mp hp
    simp
  · intro p hp
    rw [(B.inn_part hq).length_eq, List.length_cons]
    rcases part_mem.mp hp with ⟨h, _⟩ | ⟨c, _, rfl⟩
    · have := ih p h; omega
    · have := ih q hq; simp; omega
theorem BK.len_lt {m : Nat} {b : List Tx} (B : BK m b) : ∀ p ∈ b, p.length < b.length := fun p hp => by
  have h1 := B.len_le p hp
  have h2 := B.len
  have h3 := B.two
  have h5 : (inn b).length * 1 ≤ (inn b).length * (m - 1) := Nat.mul_le_mul_left _ (by omega)
  omega
end Bk
namespace Bk
def nxtFrom (b : List Tx) (x : Tx) : Nat → Nat → Option Tx
  | 0, _ => none
  | n + 1, k => if x.take k ∈ b then some (x.take k) else nxtFrom b x n (k + 1)
def nxt (b : List Tx) (x : Tx) : Option Tx := nxtFrom b x x.length 1
theorem nxtFrom_none {b : List Tx} {x : Tx} : ∀ {n k : Nat}, nxtFrom b x n k = none → ∀ j, k ≤ j → j < k + n → x.take j ∉ b
  | 0, _, _, j, h1, h2 => by omega
  | n + 1, k, h, j, h1, h2 => by
    unfold nxtFrom at h
    split at h
    · cases h
    · rename_i q
      by_cases e : j = k
      · subst e; exact q
      · exact nxtFrom_none h j (by omega) (by omega)
theorem nxtFrom_some {b : List Tx} {x p : Tx} : ∀ {n k : Nat}, nxtFrom b x n k = some p → p ∈ b ∧ p <+: x
  | 0, _, h => by cases h
  | n + 1, k, h => by
    unfold nxtFrom at h
    split at h
    · rename_i q; cases h; exact ⟨q, List.take_prefix _ _⟩
    · exact nxtFrom_some h
theorem nxt_some' {b : List Tx} {x p : Tx} (h : nxt b x = some p) : p ∈ b ∧ p <+: x := nxtFrom_some h
section
variable {m : Nat} {b : List Tx} (B : BK m b)
include B
theorem BK.nxt_none {x : Tx} (h : nxt b x = none) : ¬ ∃ p ∈ b, p <+: x := by
  rintro ⟨p, hp, k⟩
  have hl := k.length_le
  have hpos : 1 ≤ p.length := by
    cases p with
    | nil => exact absurd hp B.ne
    | cons a p => simp
  refine nxtFrom_none h p.length hpos (by omega) ?_
  rw [← List.prefix_iff_eq_take.mp k]; exact hp
theorem BK.nxt_none_hd {x : Tx} (v : VT m x) (h : nxt b x = none) : Hd b x := (B.hd_iff v).mpr (B.nxt_none h)
theorem BK.nxt_pos {x p : Tx} (h : nxt b x = some p) : 0 < p.length := by
  have := (nxt_some' h).1
  cases p with
  | nil => exact absurd this B.ne
  | cons a p => simp
end
def cutF (b : List Tx) : Nat → Tx → List Tx × Tx
  | 0, x => ([], x)
  | n + 1, x => match nxt b x with
    | none => ([], x)
    | some p => (p :: (cutF b n (x.drop p.length)).1, (cutF b n (x.drop p.length)).2)
def cut (b : List Tx) (x : Tx) : List Tx × Tx := cutF b x.length x
theorem cutF_none {b : List Tx} {x : Tx} (h : nxt b x = none) (n : Nat) : cutF b n x = ([], x) := by
  cases n with
  | zero => rfl
  | succ n => simp only [cutF, h]
section
variable {m : Nat} {b : List Tx} (B : BK m b)
include B
theorem BK.cutF_spec : ∀ (n : Nat) (x : Tx), VT m x → x.length ≤ n → (cutF b n x).1.flatten ++ (cutF b n x).2 = x ∧ (∀ p ∈ (cutF b n x).1, p ∈ b) ∧ Hd b (cutF b n x).2
  | 0, x, v, h => by
    have : x = [] := List.eq_nil_of_length_eq_zero (by omega)
    subst this
    exact ⟨rfl, fun p hp => by simp [cutF] at hp, B.hd_nil⟩
  | n + 1, x, v, h => by
    unfold cutF
    cases q : nxt b x with
    | none => exact ⟨rfl, fun p hp => by simp at hp, B.nxt_none_hd v q⟩
    | some p =>
      obtain ⟨h1, z, rfl⟩ := nxt_some' q
      have hpos := B.nxt_pos q
      simp only [List.drop_left]
      obtain ⟨i1, i2, i3⟩ := BK.cutF_spec n z v.right (by simp at h; omega)
      refine ⟨?_, fun r hr => ?_, i3⟩
      · rw [List.flatten_cons, List.append_assoc, i1]
      · rcases List.mem_cons.mp hr with e | hr
        · subst e; exact h1
        · exact i2 r hr
theorem BK.cut_spec {x : Tx} (v : VT m x) : (cut b x).1.flatten ++ (cut b x).2 = x ∧ (∀ p ∈ (cut b x).1, p ∈ b) ∧ Hd b (cut b x).2 := B.cutF_spec _ x v (Nat.le_refl _)
theorem BK.cut_uniq : ∀ {ps qs : List Tx} {l k : Tx}, (∀ p ∈ ps, p ∈ b) → (∀ p ∈ qs, p ∈ b) → Hd b l → Hd b k → ps.flatten ++ l = qs.flatten ++ k → ps = qs ∧ l = k
  | [], [], l, k, _, _, _, _, e => ⟨rfl, by simpa using e⟩
  | [], q :: qs, l, k, _, h2, h3, _, e => by
    simp only [List.flatten_nil, List.nil_append, List.flatten_cons, List.append_assoc] at e
    exact absurd (by rw [e]; exact List.prefix_append _ _) (B.not_both h3 (h2 q (by simp)))
  | p :: ps, [], l, k, h1, _, _, h4, e => by
    simp only [List.flatten_nil, List.nil_append, List.flatten_cons, List.append_assoc] at e
    exact absurd (by rw [← e]; exact List.prefix_append _ _) (B.not_both h4 (h1 p (by simp)))
  | p :: ps, q :: qs, l, k, h1, h2, h3, h4, e => by
    simp only [List.flatten_cons, List.append_assoc] at e
    have hq : p = q := B.uniq (x := p ++ (ps.flatten ++ l)) (h1 p (by simp)) (h2 q (by simp)) (List.prefix_append _ _) (by rw [e]; exact List.prefix_append _ _)
    subst hq
    obtain ⟨e1, e2⟩ := BK.cut_uniq (fun r hr => h1 r (by simp [hr])) (fun r hr => h2 r (by simp [hr])) h3 h4 (List.append_cancel_left e)
    exact ⟨by rw [e1], e2⟩
theorem BK.cut_is {ps : List Tx} {l x : Tx} (h1 : ∀ p ∈ ps, p ∈ b) (h2 : Hd b l) (e : x = ps.flatten ++ l) : cut b x = (ps, l) := by
  subst e
  have v : VT m (ps.flatten ++ l) := by
    refine VT.app (fun c hc => ?_) (B.hd_vt h2)
    obtain ⟨p, hp, hc⟩ := List.mem_flatten.mp hc
    exact B.vt p (h1 p hp) c hc
  obtain ⟨s1, s2, s3⟩ := B.cut_spec v
  obtain ⟨e1, e2⟩ := B.cut_uniq s2 h1 s3 h2 s1
  exact Prod.ext e1 e2
theorem BK.cut_app {x y : Tx} (v : VT m x) (w : VT m y) : cut b (x ++ y) = ((cut b x).1 ++ (cut b ((cut b x).2 ++ y)).1, (cut b ((cut b x).2 ++ y)).2) := by
  obtain ⟨s1, s2, s3⟩ := B.cut_spec v
  obtain ⟨t1, t2, t3⟩ := B.cut_spec (x := (cut b x).2 ++ y) ((B.hd_vt s3).app w)
  refine B.cut_is (fun p hp => ?_) t3 ?_
  · rcases List.mem_append.mp hp with hp | hp
    · exact s2 p hp
    · exact t2 p hp
  · rw [List.flatten_append, List.append_assoc, t1, ← List.append_assoc, s1]
theorem BK.cut_step {x p : Tx} (h : nxt b x = some p) (v : VT m x) : cut b x = (p :: (cut b (x.drop p.length)).1, (cut b (x.drop p.length)).2) := by
  obtain ⟨h1, z, rfl⟩ := nxt_some' h
  rw [List.drop_left]
  obtain ⟨s1, s2, s3⟩ := B.cut_spec v.right
  refine B.cut_is (fun q hq => ?_) s3 ?_
  · rcases List.mem_cons.mp hq with e | hq
    · subst e; exact h1
    · exact s2 q hq
  · rw [List.flatten_cons, List.append_assoc, s1]
end
end Bk
namespace Bk
theorem le_uniq : ∀ {a b : List Tx}, Le a → Le b → a.Perm b → a = b
  | [], b, _, _, p => (List.Perm.eq_nil p.symm).symm
  | x :: a, [], _, _, p => absurd p.length_eq (by simp)
  | x :: a, y :: b, ha, hb, p => by
    have ha1 := List.pairwise_cons.mp ha
    have hb1 := List.pairwise_cons.mp hb
    have e : x = y := by
      rcases List.mem_cons.mp (p.mem_iff.mp (List.mem_cons_self (a := x) (l := a))) with e | hx
      · exact e
      · rcases List.mem_cons.mp (p.mem_iff.mpr (List.mem_cons_self (a := y) (l := b))) with e | hy
        · exact e.symm
        · rcases lt_tri x y with r | r | r
          · exact absurd r (hb1.1 x hx)
          · exact r
          · exact absurd r (ha1.1 y hy)
    subst e
    rw [le_uniq ha1.2 hb1.2 p.cons_inv]
end Bk
namespace Bk
theorem BK.mem_iff {m : Nat} {b : List Tx} (B : BK m b) {p : Tx} : p ∈ b ↔ ∃ x c, Hd b x ∧ c ∈ lets m ∧ p = x ++ [c] ∧ ¬ Hd b p := by
  constructor
  · intro hp
    have hn : p ≠ [] := fun e => B.ne (e ▸ hp)
    refine ⟨p.dropLast, p.getLast hn, ⟨p, hp, List.dropLast_prefix p, fun e => ?_⟩, B.vt p hp _ (List.getLast_mem hn), (List.dropLast_concat_getLast hn).symm, fun h => B.hd_not_mem h hp⟩
    have := congrArg List.length e
    rw [List.length_dropLast] at this
    have := List.length_pos_iff.mpr hn
    omega
  · rintro ⟨x, c, hx, hc, rfl, n⟩
    exact (B.next hx hc).elim id fun h => absurd h n
theorem BK.ext {m : Nat} {a b : List Tx} (A : BK m a) (B : BK m b) (h : ∀ x, Hd a x ↔ Hd b x) : a = b := by
  refine Srt.ext A.srt B.srt fun p => ?_
  rw [A.mem_iff, B.mem_iff]
  constructor
  · rintro ⟨x, c, h1, h2, h3, h4⟩
    exact ⟨x, c, (h x).mp h1, h2, h3, fun k => h4 ((h p).mpr k)⟩
  · rintro ⟨x, c, h1, h2, h3, h4⟩
    exact ⟨x, c, (h x).mpr h1, h2, h3, fun k => h4 ((h p).mp k)⟩
section
variable {m : Nat} {a b : List Tx} (A : BK m a) (B : BK m b)
include B in
end
def hds (m : Nat) (b : List Tx) : List Tx := ((inn b).drop 1).filter fun h => decide ((b.filter fun p => decide (p.dropLast = h)).length = m)
theorem BK.inn_nil {m : Nat} {b : List Tx} (B : BK m b) : ∃ l, inn b = [] :: l ∧ ∀ x ∈ l, x ≠ [] := by
  have h : [] ∈ inn b := inn_mem.mpr B.hd_nil
  have s := inn_srt b
  cases e : inn b with
  | nil => rw [e] at h; cases h
  | cons x l =>
    rw [e] at h s
    have s1 := List.pairwise_cons.mp s
    rcases List.mem_cons.mp h with q | q
    · subst q
      exact ⟨l, rfl, fun y hy z => by have := s1.1 y hy; rw [z] at this; exact lt_irr _ this⟩
    · exact absurd (s1.1 [] q) (by simp)
theorem BK.join_eq {m : Nat} {b : List Tx} (B : BK m b) (h : Tx) : isort (b.filter (fun p => decide (p.dropLast ≠ h)) ++ [h]) = Bk.join b h := by
  unfold Bk.join
  congr 2
  refine List.filter_congr fun p hp => ?_
  have hn : p ≠ [] := fun e => B.ne (e ▸ hp)
  unfold isKid
  simp [hn]
end Bk
namespace Bk
inductive Joins (m : Nat) (mid : List Tx) : List Tx → List Tx → Prop
  | nil : Joins m mid mid []
  | cons {b : List Tx} {h : Tx} {hs : List Tx} : Top m b h → ¬ Hd mid h → Joins m mid (Bk.join b h) hs → Joins m mid b (h :: hs)
inductive Parts (m : Nat) (to : List Tx) : List Tx → List Tx → Prop
  | nil : Parts m to to []
  | cons {b : List Tx} {p : Tx} {ps : List Tx} : p ∈ b → Hd to p → Parts m to (Bk.part m b p) ps → Parts m to b (p :: ps)
theorem Joins.mem {m : Nat} {mid : List Tx} : ∀ {b hs : List Tx}, Joins m mid b hs → BK m b → (∀ x, x ∈ hs ↔ Hd b x ∧ ¬ Hd mid x) ∧ hs.Nodup
  | _, _, .nil, _ => ⟨fun x => by simp, List.nodup_nil⟩
  | _, _, .cons (h := h) t n j, B => by
    obtain ⟨i1, i2⟩ := j.mem (B.join t)
    refine ⟨fun x => ?_, List.nodup_cons.mpr ⟨fun k => ?_, i2⟩⟩
    · rw [List.mem_cons, i1, B.join_hd t]
      by_cases e : x = h
      · subst e
        simp [B.top_hd t, n]
      · simp [e]
    · have := ((i1 h).mp k).1
      exact ((B.join_hd t).mp this).2 rfl
theorem Parts.mem {m : Nat} {to : List Tx} : ∀ {b ps : List Tx}, Parts m to b ps → BK m b → (∀ x, x ∈ ps ↔ Hd to x ∧ ¬ Hd b x) ∧ ps.Nodup
  | _, _, .nil, _ => ⟨fun x => by simp, List.nodup_nil⟩
  | b, _, .cons (p := p) hp k j, B => by
    obtain ⟨i1, i2⟩ := j.mem (B.part hp)
    have hn : ¬ Hd b p := fun z => B.hd_not_mem z hp
    refine ⟨fun x => ?_, List.nodup_cons.mpr ⟨fun z => ?_, i2⟩⟩
    · rw [List.mem_cons, i1, B.part_hd hp]
      by_cases e : x = p
      · subst e
        simp [k, hn]
      · simp [e]
    · exact ((i1 p).mp z).2 ((B.part_hd hp).mpr (.inr rfl))
end Bk
namespace Bk
structure VS (ws : List Nat) : Prop where
  two : 2 ≤ ws.length
  four : ws.length ≤ 4
  all : ∀ w ∈ ws, 1 ≤ w ∧ w ≤ 99
theorem lets_ix {m c : Nat} (h4 : m ≤ 4) (h : c ∈ lets m) : 97 ≤ c ∧ c < 97 + m := by
  rcases show m = 0 ∨ m = 1 ∨ m = 2 ∨ m = 3 ∨ m = 4 by omega with rfl | rfl | rfl | rfl | rfl <;> simp [lets] at h <;> omega
structure FW (N : Nat) (q : Rat) : Prop where
  lo : 0 ≤ q
  hi : q ≤ 1000
  den : q.den ∣ N
end Bk
namespace Bk
section
variable {ws : List Nat} (V : VS ws) {b : List Tx} (B : BK ws.length b)
include V B
end
end Bk
namespace Bk
section
variable {ws : List Nat} (V : VS ws)
include V
end
section
variable {m : Nat} (h2 : 2 ≤ m) (h4 : m ≤ 4) {s : Nat → Nat} (hs : ∀ c ∈ lets m, s c ∈ lets m ∧ s (s c) = c)
include hs
end
end Bk
namespace Pb
open PySem L2 PLq
def cT : Cd := .bl true
theorem ev_cT (Γ : Tbl) (C : Cns) (ρ : PLq.Env) : ev Γ C cT ρ = .ok (.bl true) := rfl
def N_is_number : List Str := ["thing", "low", "high"]
def cd_is_number : Sds := (.cons (.ret (.and (.isi .int (.var 0)) (.and (.not (.isi .bool (.var 0))) (.chain .le .le (.var 1) (.var 0) (.var 2))))) .nil)
def C_is_number : Cns := []
noncomputable def G_is_number : Tbl := []
noncomputable def f_is_number : List D → Res D := fnD G_is_number C_is_number cd_is_number N_is_number 3
theorem u_is_number (d0 d1 d2 : D) : f_is_number [d0, d1, d2] = outR (runs G_is_number C_is_number cd_is_number [some d0, some d1, some d2]) := by
  unfold f_is_number
  exact Eq.trans (fn_eq G_is_number C_is_number cd_is_number N_is_number 3 [d0, d1, d2] rfl) rfl
def N_letters_of : List Str := ["many"]
def cd_letters_of : Sds := (.cons (.ret (.sl1 (.gstr 0) (.var 0))) .nil)
def C_letters_of : Cns := [("LETTERS", .str [97, 98, 99, 100])]
noncomputable def G_letters_of : Tbl := []
noncomputable def f_letters_of : List D → Res D := fnD G_letters_of C_letters_of cd_letters_of N_letters_of 1
theorem u_letters_of (d0 : D) : f_letters_of [d0] = outR (runs G_letters_of C_letters_of cd_letters_of [some d0]) := by
  unfold f_letters_of
  exact Eq.trans (fn_eq G_letters_of C_letters_of cd_letters_of N_letters_of 1 [d0] rfl) rfl
theorem k0_letters_of : Cns.at C_letters_of 0 = .ok (.str [97, 98, 99, 100]) := rfl
def N_is_text : List Str := ["many", "thing", "sign"]
def e0_is_text : Cd := (.cmp .in_ (.var 2) (.call 0 (.cons (.var 0) .nil)))
def cd_is_text : Sds := (.cons (.ret (.and (.isi .str (.var 1)) (.bif .all (.cons (.lc [2] (.name 2) (.of (.var 1)) cT e0_is_text) .nil)))) .nil)
def C_is_text : Cns := []
noncomputable def G_is_text : Tbl := [("letters_of", f_letters_of)]
noncomputable def f_is_text : List D → Res D := fnD G_is_text C_is_text cd_is_text N_is_text 2
theorem u_is_text (d0 d1 : D) : f_is_text [d0, d1] = outR (runs G_is_text C_is_text cd_is_text [some d0, some d1, none]) := by
  unfold f_is_text
  exact Eq.trans (fn_eq G_is_text C_is_text cd_is_text N_is_text 2 [d0, d1] rfl) rfl
theorem g0_is_text : Tbl.fn G_is_text 0 = f_letters_of := rfl
def N_need_text : List Str := ["many", "text"]
def cd_need_text : Sds := (.cons (.ite (.not (.call 0 (.cons (.var 0) (.cons (.var 1) .nil)))) (.cons (.rse .letters) .nil) .nil) .nil)
def C_need_text : Cns := []
noncomputable def G_need_text : Tbl := [("is_text", f_is_text)]
noncomputable def f_need_text : List D → Res D := fnD G_need_text C_need_text cd_need_text N_need_text 2
theorem u_need_text (d0 d1 : D) : f_need_text [d0, d1] = outR (runs G_need_text C_need_text cd_need_text [some d0, some d1]) := by
  unfold f_need_text
  exact Eq.trans (fn_eq G_need_text C_need_text cd_need_text N_need_text 2 [d0, d1] rfl) rfl
theorem g0_need_text : Tbl.fn G_need_text 0 = f_is_text := rfl
def N_are_pieces : List Str := ["many", "thing", "one", "other"]
def e0_are_pieces : Cd := (.and (.call 0 (.cons (.var 0) (.cons (.var 2) .nil))) (.cmp .ne (.var 2) (.str [])))
def e1_are_pieces : Cd := (.cmp .lt (.var 2) (.var 3))
def cd_are_pieces : Sds := (.cons (.ite (.or (.not (.isi .tuple (.var 1))) (.not (.chain .le .le (.int 1) (.bif .len (.cons (.var 1) .nil)) (.gint 0)))) (.cons (.ret (.bl false)) .nil) .nil) (.cons (.ite (.not (.bif .all (.cons (.lc [2] (.name 2) (.of (.var 1)) cT e0_are_pieces) .nil))) (.cons (.ret (.bl false)) .nil) .nil) (.cons (.ret (.bif .all (.cons (.lc [2, 3] (.tup2 (.name 2) (.name 3)) (.zip (.var 1) (.sl0 (.var 1) (.int 1))) cT e1_are_pieces) .nil))) .nil)))
def C_are_pieces : Cns := [("MOST_PIECES", .int 32)]
noncomputable def G_are_pieces : Tbl := [("is_text", f_is_text)]
noncomputable def f_are_pieces : List D → Res D := fnD G_are_pieces C_are_pieces cd_are_pieces N_are_pieces 2
theorem u_are_pieces (d0 d1 : D) : f_are_pieces [d0, d1] = outR (runs G_are_pieces C_are_pieces cd_are_pieces [some d0, some d1, none, none]) := by
  unfold f_are_pieces
  exact Eq.trans (fn_eq G_are_pieces C_are_pieces cd_are_pieces N_are_pieces 2 [d0, d1] rfl) rfl
theorem g0_are_pieces : Tbl.fn G_are_pieces 0 = f_is_text := rfl
theorem k0_are_pieces : Cns.at C_are_pieces 0 = .ok (.int 32) := rfl
def N_all_heads : List Str := ["book", "found", "piece", "size"]
def b0_all_heads : Sds := (.cons (.put 1 (.sl1 (.var 2) (.var 3)) (.bl true)) (.cons (.kill [3]) .nil))
def b1_all_heads : Sds := (.cons (.loop (.name 3) (.rng1 (.bif .len (.cons (.var 2) .nil))) b0_all_heads) (.cons (.kill [2, 3]) .nil))
def cd_all_heads : Sds := (.cons (.setF 1 .dnew) (.cons (.loop (.name 2) (.of (.var 0)) b1_all_heads) (.cons (.retL 1) .nil)))
def C_all_heads : Cns := []
noncomputable def G_all_heads : Tbl := []
noncomputable def f_all_heads : List D → Res D := fnD G_all_heads C_all_heads cd_all_heads N_all_heads 1
theorem u_all_heads (d0 : D) : f_all_heads [d0] = outR (runs G_all_heads C_all_heads cd_all_heads [some d0, none, none, none]) := by
  unfold f_all_heads
  exact Eq.trans (fn_eq G_all_heads C_all_heads cd_all_heads N_all_heads 1 [d0] rfl) rfl
def N_inner_of : List Str := ["book"]
def cd_inner_of : Sds := (.cons (.ret (.xop .sorted (.cons (.call 0 (.cons (.var 0) .nil)) .nil))) .nil)
def C_inner_of : Cns := []
noncomputable def G_inner_of : Tbl := [("all_heads", f_all_heads)]
noncomputable def f_inner_of : List D → Res D := fnD G_inner_of C_inner_of cd_inner_of N_inner_of 1
theorem u_inner_of (d0 : D) : f_inner_of [d0] = outR (runs G_inner_of C_inner_of cd_inner_of [some d0]) := by
  unfold f_inner_of
  exact Eq.trans (fn_eq G_inner_of C_inner_of cd_inner_of N_inner_of 1 [d0] rfl) rfl
theorem g0_inner_of : Tbl.fn G_inner_of 0 = f_all_heads := rfl
def N_twice : List Str := ["book", "inner", "piece", "other"]
def t0_twice : Cd := (.and (.cmp .ne (.var 3) (.var 2)) (.met .starts (.var 3) (.cons (.var 2) .nil)))
def e1_twice : Cd := (.var 3)
def b2_twice : Sds := (.cons (.ite (.cmp .in_ (.var 2) (.var 1)) (.cons (.ret (.tup (.cons (.var 2) (.cons (.idx (.lc [3] (.name 3) (.of (.var 0)) t0_twice e1_twice) (.int 0)) .nil)))) .nil) .nil) (.cons (.kill [2]) .nil))
def cd_twice : Sds := (.cons (.set 1 (.call 0 (.cons (.var 0) .nil))) (.cons (.loop (.name 2) (.of (.var 0)) b2_twice) (.cons (.ret .non) .nil)))
def C_twice : Cns := []
noncomputable def G_twice : Tbl := [("all_heads", f_all_heads)]
noncomputable def f_twice : List D → Res D := fnD G_twice C_twice cd_twice N_twice 1
theorem u_twice (d0 : D) : f_twice [d0] = outR (runs G_twice C_twice cd_twice [some d0, none, none, none]) := by
  unfold f_twice
  exact Eq.trans (fn_eq G_twice C_twice cd_twice N_twice 1 [d0] rfl) rfl
theorem g0_twice : Tbl.fn G_twice 0 = f_all_heads := rfl
def N_gap : List Str := ["many", "book", "inner", "known", "size", "head", "sign", "piece"]
def e0_gap : Cd := (.tup (.cons (.var 7) (.cons (.bl true) .nil)))
def e1_gap : Cd := (.tup (.cons (.bif .len (.cons (.var 5) .nil)) (.cons (.var 5) .nil)))
def b2_gap : Sds := (.cons (.ite (.and (.cmp .nin (.bin .add (.var 5) (.var 6)) (.var 2)) (.cmp .nin (.bin .add (.var 5) (.var 6)) (.var 3))) (.cons (.ret (.bin .add (.var 5) (.var 6))) .nil) .nil) (.cons (.kill [6]) .nil))
def b3_gap : Sds := (.cons (.loop (.name 6) (.of (.call 1 (.cons (.var 0) .nil))) b2_gap) (.cons (.kill [4, 5, 6]) .nil))
def cd_gap : Sds := (.cons (.set 2 (.call 0 (.cons (.var 1) .nil))) (.cons (.set 3 (.xop .dict (.cons (.lc [7] (.name 7) (.of (.var 1)) cT e0_gap) .nil))) (.cons (.loop (.tup2 (.name 4) (.name 5)) (.of (.xop .sorted (.cons (.lcD [5] (.name 5) 2 cT e1_gap) .nil))) b3_gap) (.cons (.ret .non) .nil))))
def C_gap : Cns := []
noncomputable def G_gap : Tbl := [("all_heads", f_all_heads), ("letters_of", f_letters_of)]
noncomputable def f_gap : List D → Res D := fnD G_gap C_gap cd_gap N_gap 2
theorem u_gap (d0 d1 : D) : f_gap [d0, d1] = outR (runs G_gap C_gap cd_gap [some d0, some d1, none, none, none, none, none, none]) := by
  unfold f_gap
  exact Eq.trans (fn_eq G_gap C_gap cd_gap N_gap 2 [d0, d1] rfl) rfl
theorem g0_gap : Tbl.fn G_gap 0 = f_all_heads := rfl
theorem g1_gap : Tbl.fn G_gap 1 = f_letters_of := rfl
def N_is_book : List Str := ["many", "thing"]
def cd_is_book : Sds := (.cons (.ite (.or (.not (.call 0 (.cons (.var 0) (.cons (.int 2) (.cons (.int 4) .nil))))) (.not (.call 1 (.cons (.var 0) (.cons (.var 1) .nil))))) (.cons (.ret (.bl false)) .nil) .nil) (.cons (.ret (.and (.cmp .is (.call 2 (.cons (.var 1) .nil)) .non) (.cmp .is (.call 3 (.cons (.var 0) (.cons (.var 1) .nil))) .non))) .nil))
def C_is_book : Cns := []
noncomputable def G_is_book : Tbl := [("is_number", f_is_number), ("are_pieces", f_are_pieces), ("twice", f_twice), ("gap", f_gap)]
noncomputable def f_is_book : List D → Res D := fnD G_is_book C_is_book cd_is_book N_is_book 2
theorem u_is_book (d0 d1 : D) : f_is_book [d0, d1] = outR (runs G_is_book C_is_book cd_is_book [some d0, some d1]) := by
  unfold f_is_book
  exact Eq.trans (fn_eq G_is_book C_is_book cd_is_book N_is_book 2 [d0, d1] rfl) rfl
theorem g0_is_book : Tbl.fn G_is_book 0 = f_is_number := rfl
theorem g1_is_book : Tbl.fn G_is_book 1 = f_are_pieces := rfl
theorem g2_is_book : Tbl.fn G_is_book 2 = f_twice := rfl
theorem g3_is_book : Tbl.fn G_is_book 3 = f_gap := rfl
def N_need_book : List Str := ["many", "book"]
def cd_need_book : Sds := (.cons (.ite (.not (.call 0 (.cons (.var 0) (.cons (.var 1) .nil)))) (.cons (.rse .book) .nil) .nil) .nil)
def C_need_book : Cns := []
noncomputable def G_need_book : Tbl := [("is_book", f_is_book)]
noncomputable def f_need_book : List D → Res D := fnD G_need_book C_need_book cd_need_book N_need_book 2
theorem u_need_book (d0 d1 : D) : f_need_book [d0, d1] = outR (runs G_need_book C_need_book cd_need_book [some d0, some d1]) := by
  unfold f_need_book
  exact Eq.trans (fn_eq G_need_book C_need_book cd_need_book N_need_book 2 [d0, d1] rfl) rfl
theorem g0_need_book : Tbl.fn G_need_book 0 = f_is_book := rfl
def N_next_piece : List Str := ["book", "text", "size"]
def b0_next_piece : Sds := (.cons (.ite (.cmp .in_ (.sl1 (.var 1) (.var 2)) (.var 0)) (.cons (.ret (.sl1 (.var 1) (.var 2))) .nil) .nil) (.cons (.kill [2]) .nil))
def cd_next_piece : Sds := (.cons (.loop (.name 2) (.rng2 (.int 1) (.bin .add (.bif .len (.cons (.var 1) .nil)) (.int 1))) b0_next_piece) (.cons (.ret .non) .nil))
def C_next_piece : Cns := []
noncomputable def G_next_piece : Tbl := []
noncomputable def f_next_piece : List D → Res D := fnD G_next_piece C_next_piece cd_next_piece N_next_piece 2
theorem u_next_piece (d0 d1 : D) : f_next_piece [d0, d1] = outR (runs G_next_piece C_next_piece cd_next_piece [some d0, some d1, none]) := by
  unfold f_next_piece
  exact Eq.trans (fn_eq G_next_piece C_next_piece cd_next_piece N_next_piece 2 [d0, d1] rfl) rfl
def N_cut : List Str := ["many", "book", "text", "found", "piece"]
def t0_cut : Cd := (.cmp .isn (.var 4) .non)
def b1_cut : Sds := (.cons (.app 3 (.var 4)) (.cons (.set 2 (.sl0 (.var 2) (.bif .len (.cons (.var 4) .nil)))) (.cons (.set 4 (.call 2 (.cons (.var 1) (.cons (.var 2) .nil)))) .nil)))
def z2_cut : Sds := (.cons (.ret (.tup (.cons (.var 3) (.cons (.var 2) .nil)))) .nil)
def cd_cut : Sds := (.cons (.expr (.call 0 (.cons (.var 0) (.cons (.var 1) .nil)))) (.cons (.expr (.call 1 (.cons (.var 0) (.cons (.var 2) .nil)))) (.cons (.setF 3 (.lst .nil)) (.cons (.set 4 (.call 2 (.cons (.var 1) (.cons (.var 2) .nil)))) (.cons (.whl t0_cut b1_cut) (.cons (.frzB 3 z2_cut) .nil))))))
def C_cut : Cns := []
noncomputable def G_cut : Tbl := [("need_book", f_need_book), ("need_text", f_need_text), ("next_piece", f_next_piece)]
noncomputable def f_cut : List D → Res D := fnD G_cut C_cut cd_cut N_cut 3
theorem u_cut (d0 d1 d2 : D) : f_cut [d0, d1, d2] = outR (runs G_cut C_cut cd_cut [some d0, some d1, some d2, none, none]) := by
  unfold f_cut
  exact Eq.trans (fn_eq G_cut C_cut cd_cut N_cut 3 [d0, d1, d2] rfl) rfl
theorem g0_cut : Tbl.fn G_cut 0 = f_need_book := rfl
theorem g1_cut : Tbl.fn G_cut 1 = f_need_text := rfl
theorem g2_cut : Tbl.fn G_cut 2 = f_next_piece := rfl
def N_law_cell : List Str := ["_law_script", "_law_k"]
def cd_law_cell : Sds := (.cons (.ite (.cmp .eq (.var 0) (.lst .nil)) (.cons (.ret (.bin .mul (.int 7) (.var 1))) .nil) .nil) (.cons (.ret (.bin .add (.idx (.var 0) (.bin .mod (.var 1) (.bif .len (.cons (.var 0) .nil)))) (.bin .mul (.int 6553) (.bin .div (.var 1) (.bif .len (.cons (.var 0) .nil)))))) .nil))
def C_law_cell : Cns := []
noncomputable def G_law_cell : Tbl := []
noncomputable def f_law_cell : List D → Res D := fnD G_law_cell C_law_cell cd_law_cell N_law_cell 2
theorem u_law_cell (d0 d1 : D) : f_law_cell [d0, d1] = outR (runs G_law_cell C_law_cell cd_law_cell [some d0, some d1]) := by
  unfold f_law_cell
  exact Eq.trans (fn_eq G_law_cell C_law_cell cd_law_cell N_law_cell 2 [d0, d1] rfl) rfl
def N_law_drawn : List Str := ["_law_script", "_law_k", "_law_many", "_law_cell_here"]
def cd_law_drawn : Sds := (.cons (.set 3 (.bin .mod (.bin .add (.bin .mul (.bin .mod (.call 0 (.cons (.var 0) (.cons (.var 1) .nil))) (.int 2147483563)) (.int 69069)) (.bin .mul (.int 104723) (.bin .add (.var 1) (.int 1)))) (.int 2147483563))) (.cons (.set 3 (.bin .mod (.bin .add (.bin .mul (.var 3) (.var 3)) (.bin .div (.var 3) (.int 3))) (.int 2147483399))) (.cons (.ret (.bin .mod (.bin .div (.bin .mod (.bin .add (.bin .mul (.var 3) (.var 3)) (.bin .div (.var 3) (.int 7))) (.int 2147483647)) (.int 11)) (.var 2))) .nil)))
def C_law_drawn : Cns := []
noncomputable def G_law_drawn : Tbl := [("_law_cell", f_law_cell)]
noncomputable def f_law_drawn : List D → Res D := fnD G_law_drawn C_law_drawn cd_law_drawn N_law_drawn 3
theorem u_law_drawn (d0 d1 d2 : D) : f_law_drawn [d0, d1, d2] = outR (runs G_law_drawn C_law_drawn cd_law_drawn [some d0, some d1, some d2, none]) := by
  unfold f_law_drawn
  exact Eq.trans (fn_eq G_law_drawn C_law_drawn cd_law_drawn N_law_drawn 3 [d0, d1, d2] rfl) rfl
theorem g0_law_drawn : Tbl.fn G_law_drawn 0 = f_law_cell := rfl
def N_law_book : List Str := ["_law_script", "_law_at", "_law_many", "_law_turns", "_law_found", "_law_k", "_law_piece", "_law_j"]
def e0_law_book : Cd := (.idx (.str [97, 98, 99, 100]) (.var 5))
def e1_law_book : Cd := (.bin .add (.var 6) (.idx (.str [97, 98, 99, 100]) (.var 7)))
def b2_law_book : Sds := (.cons (.pop 6 4 (.call 0 (.cons (.var 0) (.cons (.bin .add (.var 1) (.var 5)) (.cons (.bif .len (.cons (.lvar 4) .nil)) .nil))))) (.cons (.setG 4 (.xop .sorted (.cons (.bin .add (.lvar 4) (.lc [7] (.name 7) (.rng1 (.var 2)) cT e1_law_book)) .nil))) (.cons (.kill [5, 6]) .nil)))
def cd_law_book : Sds := (.cons (.setF 4 (.lc [5] (.name 5) (.rng1 (.var 2)) cT e0_law_book)) (.cons (.loop (.name 5) (.rng1 (.var 3)) b2_law_book) (.cons (.ret (.bif .tuple (.cons (.lvar 4) .nil))) .nil)))
def C_law_book : Cns := []
noncomputable def G_law_book : Tbl := [("_law_drawn", f_law_drawn)]
noncomputable def f_law_book : List D → Res D := fnD G_law_book C_law_book cd_law_book N_law_book 4
theorem u_law_book (d0 d1 d2 d3 : D) : f_law_book [d0, d1, d2, d3] = outR (runs G_law_book C_law_book cd_law_book [some d0, some d1, some d2, some d3, none, none, none, none]) := by
  unfold f_law_book
  exact Eq.trans (fn_eq G_law_book C_law_book cd_law_book N_law_book 4 [d0, d1, d2, d3] rfl) rfl
theorem g0_law_book : Tbl.fn G_law_book 0 = f_law_drawn := rfl
def N_law_source : List Str := ["_law_script", "_law_at", "_law_many", "_law_most", "_law_k"]
def e0_law_source : Cd := (.bin .add (.int 1) (.call 0 (.cons (.var 0) (.cons (.bin .add (.bin .add (.var 1) (.int 1)) (.var 4)) (.cons (.var 3) .nil)))))
def cd_law_source : Sds := (.cons (.set 3 (.idx (.lst (.cons (.int 3) (.cons (.int 9) (.cons (.int 99) .nil)))) (.call 0 (.cons (.var 0) (.cons (.var 1) (.cons (.int 3) .nil)))))) (.cons (.ret (.bif .tuple (.cons (.lc [4] (.name 4) (.rng1 (.var 2)) cT e0_law_source) .nil))) .nil))
def C_law_source : Cns := []
noncomputable def G_law_source : Tbl := [("_law_drawn", f_law_drawn)]
noncomputable def f_law_source : List D → Res D := fnD G_law_source C_law_source cd_law_source N_law_source 3
def N_law_text : List Str := ["_law_script", "_law_at", "_law_many", "_law_long", "_law_size", "_law_k"]
def e0_law_text : Cd := (.idx (.str [97, 98, 99, 100]) (.call 0 (.cons (.var 0) (.cons (.bin .add (.bin .add (.var 1) (.int 1)) (.var 5)) (.cons (.var 2) .nil)))))
def cd_law_text : Sds := (.cons (.set 4 (.call 0 (.cons (.var 0) (.cons (.var 1) (.cons (.bin .add (.var 3) (.int 1)) .nil))))) (.cons (.ret (.met .join (.str []) (.cons (.lc [5] (.name 5) (.rng1 (.var 4)) cT e0_law_text) .nil))) .nil))
def C_law_text : Cns := []
noncomputable def G_law_text : Tbl := [("_law_drawn", f_law_drawn)]
noncomputable def f_law_text : List D → Res D := fnD G_law_text C_law_text cd_law_text N_law_text 4
theorem u_law_text (d0 d1 d2 d3 : D) : f_law_text [d0, d1, d2, d3] = outR (runs G_law_text C_law_text cd_law_text [some d0, some d1, some d2, some d3, none, none]) := by
  unfold f_law_text
  exact Eq.trans (fn_eq G_law_text C_law_text cd_law_text N_law_text 4 [d0, d1, d2, d3] rfl) rfl
theorem g0_law_text : Tbl.fn G_law_text 0 = f_law_drawn := rfl
def N_law_told_k13 : List Str := ["_law_many", "_law_book_here", "_law_text_here", "_law_e"]
def y0_law_told_k13 : Sds := (.cons (.ret (.call 0 (.cons (.var 0) (.cons (.var 1) (.cons (.var 2) .nil))))) .nil)
def cd_law_told_k13 : Sds := (.cons (.tryX [] ⟨none, [.source, .book, .piece, .letters, .word, .size], (.ref 3 "_law_refused" [.source, .book, .piece, .letters, .word, .size])⟩ y0_law_told_k13) .nil)
def C_law_told_k13 : Cns := []
noncomputable def G_law_told_k13 : Tbl := [("cut", f_cut)]
noncomputable def f_law_told_k13 : List D → Res D := fnD G_law_told_k13 C_law_told_k13 cd_law_told_k13 N_law_told_k13 3
theorem u_law_told_k13 (d0 d1 d2 : D) : f_law_told_k13 [d0, d1, d2] = outR (runs G_law_told_k13 C_law_told_k13 cd_law_told_k13 [some d0, some d1, some d2, none]) := by
  unfold f_law_told_k13
  exact Eq.trans (fn_eq G_law_told_k13 C_law_told_k13 cd_law_told_k13 N_law_told_k13 3 [d0, d1, d2] rfl) rfl
theorem g0_law_told_k13 : Tbl.fn G_law_told_k13 0 = f_cut := rfl
def N_law_k13 : List Str := ["_law_script", "_law_many", "_law_book_here", "_law_text_here", "_law_rows", "_law_left", "_law_some", "_law_size", "_law_told_here", "_law_bad", "_law_none", "_law_piece", "_law_pieces", "_law_rest"]
def t0_law_k13 : Cd := (.met .starts (.var 5) (.cons (.var 11) .nil))
def e1_law_k13 : Cd := (.var 11)
def t2_law_k13 : Cd := (.cmp .ne (.var 6) (.lst .nil))
def t3_law_k13 : Cd := (.met .starts (.var 5) (.cons (.var 11) .nil))
def e4_law_k13 : Cd := (.var 11)
def b5_law_k13 : Sds := (.cons (.app 4 (.idx (.var 6) (.int 0))) (.cons (.set 5 (.sl0 (.var 5) (.bif .len (.cons (.idx (.var 6) (.int 0)) .nil)))) (.cons (.set 6 (.lc [11] (.name 11) (.of (.var 2)) t3_law_k13 e4_law_k13)) .nil)))
def b6_law_k13 : Sds := (.cons (.unp (.tup2 (.name 12) (.name 13)) (.call 5 (.cons (.var 1) (.cons (.var 2) (.cons (.sl1 (.var 3) (.var 7)) .nil))))) (.cons (.ite (.or (.cmp .ne (.var 12) (.sl1 (.var 4) (.bif .len (.cons (.var 12) .nil)))) (.cmp .ne (.bin .add (.met .join (.str []) (.cons (.var 12) .nil)) (.var 13)) (.sl1 (.var 3) (.var 7)))) (.cons (.ret (.bl false)) .nil) .nil) (.cons (.kill [7, 12, 13]) .nil)))
def z7_law_k13 : Sds := (.cons (.ite (.or (.cmp .ne (.call 3 (.cons (.var 1) (.cons (.var 2) (.cons (.var 3) .nil)))) (.tup (.cons (.var 4) (.cons (.var 5) .nil)))) (.or (.cmp .ne (.bin .add (.met .join (.str []) (.cons (.var 4) .nil)) (.var 5)) (.var 3)) (.cmp .nin (.var 5) (.call 4 (.cons (.var 2) .nil))))) (.cons (.ret (.bl false)) .nil) .nil) (.cons (.loop (.name 7) (.rng3 (.int 0) (.bif .len (.cons (.var 3) .nil)) (.int 3)) b6_law_k13) (.cons (.fapp 8 5 (.cons (.var 1) (.cons (.var 2) (.cons (.var 3) .nil))) [120]) (.cons (.set 9 (.idx (.lst (.cons (.bin .add (.var 3) (.idx (.str [97, 98, 99, 100, 101]) (.var 1))) (.cons .non (.cons (.lst (.cons (.var 3) .nil)) (.cons (.bin .add (.var 3) (.str [65])) (.cons (.int 1) .nil)))))) (.call 0 (.cons (.var 0) (.cons (.int 60) (.cons (.int 5) .nil)))))) (.cons (.ite (.or (.cmp .ne (.call 3 (.cons (.var 1) (.cons (.var 2) (.cons (.var 9) .nil)))) (.tup (.cons (.str [114, 101, 102, 117, 115, 101, 100]) (.cons (.int 3) .nil)))) (.cmp .ne (.idx (.call 5 (.cons (.var 1) (.cons (.var 2) (.cons (.var 3) .nil)))) (.int 0)) (.var 4))) (.cons (.ret (.bl false)) .nil) .nil) (.cons (.set 10 (.idx (.lst (.cons (.sl0 (.var 2) (.int 1)) (.cons .non (.cons (.tup .nil) (.cons (.xop .rev (.cons (.var 2) .nil)) (.cons (.bif .list (.cons (.var 2) .nil)) (.cons (.bin .add (.var 2) (.tup (.cons (.str [122]) .nil))) .nil))))))) (.call 0 (.cons (.var 0) (.cons (.int 61) (.cons (.int 6) .nil)))))) (.cons (.ret (.and (.cmp .eq (.call 3 (.cons (.var 1) (.cons (.var 10) (.cons (.var 9) .nil)))) (.tup (.cons (.str [114, 101, 102, 117, 115, 101, 100]) (.cons (.int 1) .nil)))) (.cmp .eq (.call 3 (.cons (.int 5) (.cons (.var 2) (.cons (.var 3) .nil)))) (.tup (.cons (.str [114, 101, 102, 117, 115, 101, 100]) (.cons (.int 1) .nil)))))) .nil)))))))
def cd_law_k13 : Sds := (.cons (.set 1 (.bin .add (.int 2) (.call 0 (.cons (.var 0) (.cons (.int 0) (.cons (.int 3) .nil)))))) (.cons (.set 2 (.call 1 (.cons (.var 0) (.cons (.int 1) (.cons (.var 1) (.cons (.call 0 (.cons (.var 0) (.cons (.int 10) (.cons (.int 5) .nil)))) .nil)))))) (.cons (.set 3 (.call 2 (.cons (.var 0) (.cons (.int 20) (.cons (.var 1) (.cons (.int 30) .nil)))))) (.cons (.setF 4 (.lst .nil)) (.cons (.set 5 (.var 3)) (.cons (.set 6 (.lc [11] (.name 11) (.of (.var 2)) t0_law_k13 e1_law_k13)) (.cons (.whl t2_law_k13 b5_law_k13) (.cons (.frzB 4 z7_law_k13) .nil))))))))
def C_law_k13 : Cns := []
noncomputable def G_law_k13 : Tbl := [("_law_drawn", f_law_drawn), ("_law_book", f_law_book), ("_law_text", f_law_text), ("_law_told", f_law_told_k13), ("inner_of", f_inner_of), ("cut", f_cut)]
noncomputable def f_law_k13 : List D → Res D := fnD G_law_k13 C_law_k13 cd_law_k13 N_law_k13 1
theorem u_law_k13 (d0 : D) : f_law_k13 [d0] = outR (runs G_law_k13 C_law_k13 cd_law_k13 [some d0, none, none, none, none, none, none, none, none, none, none, none, none, none]) := by
  unfold f_law_k13
  exact Eq.trans (fn_eq G_law_k13 C_law_k13 cd_law_k13 N_law_k13 1 [d0] rfl) rfl
theorem g0_law_k13 : Tbl.fn G_law_k13 0 = f_law_drawn := rfl
theorem g1_law_k13 : Tbl.fn G_law_k13 1 = f_law_book := rfl
theorem g2_law_k13 : Tbl.fn G_law_k13 2 = f_law_text := rfl
theorem g3_law_k13 : Tbl.fn G_law_k13 3 = f_law_told_k13 := rfl
theorem g4_law_k13 : Tbl.fn G_law_k13 4 = f_inner_of := rfl
theorem g5_law_k13 : Tbl.fn G_law_k13 5 = f_cut := rfl
end Pb
namespace Pb
open PySem L2 PLq
def top (i : Nat) : Stmt := PySem.Challenge.pw_piecebooks_k13_cut.main.body.getD i (.Pass ⟨0, 0, 0, 0⟩)
def exs : List Ex := [.letters, .book]
abbrev st_is_number : Stmt := top 10
def ck_is_number : Ck := ⟨N_is_number, defScope st_is_number, [], [], [], []⟩
abbrev st_letters_of : Stmt := top 11
def ck_letters_of : Ck := ⟨N_letters_of, defScope st_letters_of, [], [], ["LETTERS"], []⟩
abbrev st_is_text : Stmt := top 12
def ck_is_text : Ck := ⟨N_is_text, defScope st_is_text, [], ["letters_of"], [], []⟩
abbrev st_need_text : Stmt := top 13
def ck_need_text : Ck := ⟨N_need_text, defScope st_need_text, [], ["is_text"], [], []⟩
abbrev st_are_pieces : Stmt := top 16
def ck_are_pieces : Ck := ⟨N_are_pieces, defScope st_are_pieces, [], ["is_text"], ["MOST_PIECES"], []⟩
abbrev st_all_heads : Stmt := top 17
def ck_all_heads : Ck := ⟨N_all_heads, defScope st_all_heads, [1], [], [], []⟩
abbrev st_inner_of : Stmt := top 18
def ck_inner_of : Ck := ⟨N_inner_of, defScope st_inner_of, [], ["all_heads"], [], []⟩
abbrev st_twice : Stmt := top 19
def ck_twice : Ck := ⟨N_twice, defScope st_twice, [], ["all_heads"], [], []⟩
abbrev st_gap : Stmt := top 20
def ck_gap : Ck := ⟨N_gap, defScope st_gap, [], ["all_heads", "letters_of"], [], []⟩
abbrev st_is_book : Stmt := top 21
def ck_is_book : Ck := ⟨N_is_book, defScope st_is_book, [], ["is_number", "are_pieces", "twice", "gap"], [], []⟩
abbrev st_need_book : Stmt := top 22
def ck_need_book : Ck := ⟨N_need_book, defScope st_need_book, [], ["is_book"], [], []⟩
abbrev st_next_piece : Stmt := top 23
def ck_next_piece : Ck := ⟨N_next_piece, defScope st_next_piece, [], [], [], []⟩
abbrev st_cut : Stmt := top 24
def ck_cut : Ck := ⟨N_cut, defScope st_cut, [3], ["need_book", "need_text", "next_piece"], [], []⟩
abbrev st_law_cell : Stmt := top 26
def ck_law_cell : Ck := ⟨N_law_cell, defScope st_law_cell, [], [], [], []⟩
abbrev st_law_drawn : Stmt := top 27
def ck_law_drawn : Ck := ⟨N_law_drawn, defScope st_law_drawn, [], ["_law_cell"], [], []⟩
abbrev st_law_book : Stmt := top 28
def ck_law_book : Ck := ⟨N_law_book, defScope st_law_book, [4], ["_law_drawn"], [], []⟩
abbrev st_law_source : Stmt := top 29
def ck_law_source : Ck := ⟨N_law_source, defScope st_law_source, [], ["_law_drawn"], [], []⟩
abbrev st_law_text : Stmt := top 30
def ck_law_text : Ck := ⟨N_law_text, defScope st_law_text, [], ["_law_drawn"], [], []⟩
abbrev st_law_told_k13 : Stmt := top 32
def ck_law_told_k13 : Ck := ⟨N_law_told_k13, defScope st_law_told_k13, [], ["cut"], [], [⟨none, [.source, .book, .piece, .letters, .word, .size], (.ref 3 "_law_refused" [.source, .book, .piece, .letters, .word, .size])⟩]⟩
abbrev st_law_k13 : Stmt := top 33
def ck_law_k13 : Ck := ⟨N_law_k13, defScope st_law_k13, [4], ["_law_drawn", "_law_book", "_law_text", "_law_told", "inner_of", "cut"], [], []⟩
theorem sc_is_number : FnScope N_is_number ["thing", "low", "high"] (defScope st_is_number) := ⟨rfl, rfl, rfl, by decide +kernel, rfl, by decide +kernel, by decide +kernel⟩
theorem ok_is_number : okSs ck_is_number exs cd_is_number (defBody st_is_number) = true := by decide +kernel
theorem sc_letters_of : FnScope N_letters_of ["many"] (defScope st_letters_of) := ⟨rfl, rfl, rfl, by decide +kernel, rfl, by decide +kernel, by decide +kernel⟩
theorem ok_letters_of : okSs ck_letters_of exs cd_letters_of (defBody st_letters_of) = true := by decide +kernel
theorem sc_is_text : FnScope N_is_text ["many", "thing"] (defScope st_is_text) := ⟨rfl, rfl, rfl, by decide +kernel, rfl, by decide +kernel, by decide +kernel⟩
theorem ok_is_text : okSs ck_is_text exs cd_is_text (defBody st_is_text) = true := by decide +kernel
theorem sc_need_text : FnScope N_need_text ["many", "text"] (defScope st_need_text) := ⟨rfl, rfl, rfl, by decide +kernel, rfl, by decide +kernel, by decide +kernel⟩
theorem ok_need_text : okSs ck_need_text exs cd_need_text (defBody st_need_text) = true := by decide +kernel
theorem sc_are_pieces : FnScope N_are_pieces ["many", "thing"] (defScope st_are_pieces) := ⟨rfl, rfl, rfl, by decide +kernel, rfl, by decide +kernel, by decide +kernel⟩
theorem ok_are_pieces : okSs ck_are_pieces exs cd_are_pieces (defBody st_are_pieces) = true := by decide +kernel
theorem sc_all_heads : FnScope N_all_heads ["book"] (defScope st_all_heads) := ⟨rfl, rfl, rfl, by decide +kernel, rfl, by decide +kernel, by decide +kernel⟩
theorem ok_all_heads : okSs ck_all_heads exs cd_all_heads (defBody st_all_heads) = true := by decide +kernel
theorem sc_inner_of : FnScope N_inner_of ["book"] (defScope st_inner_of) := ⟨rfl, rfl, rfl, by decide +kernel, rfl, by decide +kernel, by decide +kernel⟩
theorem ok_inner_of : okSs ck_inner_of exs cd_inner_of (defBody st_inner_of) = true := by decide +kernel
theorem sc_twice : FnScope N_twice ["book"] (defScope st_twice) := ⟨rfl, rfl, rfl, by decide +kernel, rfl, by decide +kernel, by decide +kernel⟩
theorem ok_twice : okSs ck_twice exs cd_twice (defBody st_twice) = true := by decide +kernel
theorem sc_gap : FnScope N_gap ["many", "book"] (defScope st_gap) := ⟨rfl, rfl, rfl, by decide +kernel, rfl, by decide +kernel, by decide +kernel⟩
theorem ok_gap : okSs ck_gap exs cd_gap (defBody st_gap) = true := by decide +kernel
theorem sc_is_book : FnScope N_is_book ["many", "thing"] (defScope st_is_book) := ⟨rfl, rfl, rfl, by decide +kernel, rfl, by decide +kernel, by decide +kernel⟩
theorem ok_is_book : okSs ck_is_book exs cd_is_book (defBody st_is_book) = true := by decide +kernel
theorem sc_need_book : FnScope N_need_book ["many", "book"] (defScope st_need_book) := ⟨rfl, rfl, rfl, by decide +kernel, rfl, by decide +kernel, by decide +kernel⟩
theorem ok_need_book : okSs ck_need_book exs cd_need_book (defBody st_need_book) = true := by decide +kernel
theorem sc_next_piece : FnScope N_next_piece ["book", "text"] (defScope st_next_piece) := ⟨rfl, rfl, rfl, by decide +kernel, rfl, by decide +kernel, by decide +kernel⟩
theorem ok_next_piece : okSs ck_next_piece exs cd_next_piece (defBody st_next_piece) = true := by decide +kernel
theorem sc_cut : FnScope N_cut ["many", "book", "text"] (defScope st_cut) := ⟨rfl, rfl, rfl, by decide +kernel, rfl, by decide +kernel, by decide +kernel⟩
theorem ok_cut : okSs ck_cut exs cd_cut (defBody st_cut) = true := by decide +kernel
theorem sc_law_cell : FnScope N_law_cell ["_law_script", "_law_k"] (defScope st_law_cell) := ⟨rfl, rfl, rfl, by decide +kernel, rfl, by decide +kernel, by decide +kernel⟩
theorem ok_law_cell : okSs ck_law_cell exs cd_law_cell (defBody st_law_cell) = true := by decide +kernel
theorem sc_law_drawn : FnScope N_law_drawn ["_law_script", "_law_k", "_law_many"] (defScope st_law_drawn) := ⟨rfl, rfl, rfl, by decide +kernel, rfl, by decide +kernel, by decide +kernel⟩
theorem ok_law_drawn : okSs ck_law_drawn exs cd_law_drawn (defBody st_law_drawn) = true := by decide +kernel
theorem sc_law_book : FnScope N_law_book ["_law_script", "_law_at", "_law_many", "_law_turns"] (defScope st_law_book) := ⟨rfl, rfl, rfl, by decide +kernel, rfl, by decide +kernel, by decide +kernel⟩
theorem ok_law_book : okSs ck_law_book exs cd_law_book (defBody st_law_book) = true := by decide +kernel
theorem sc_law_source : FnScope N_law_source ["_law_script", "_law_at", "_law_many"] (defScope st_law_source) := ⟨rfl, rfl, rfl, by decide +kernel, rfl, by decide +kernel, by decide +kernel⟩
theorem ok_law_source : okSs ck_law_source exs cd_law_source (defBody st_law_source) = true := by decide +kernel
theorem sc_law_text : FnScope N_law_text ["_law_script", "_law_at", "_law_many", "_law_long"] (defScope st_law_text) := ⟨rfl, rfl, rfl, by decide +kernel, rfl, by decide +kernel, by decide +kernel⟩
theorem ok_law_text : okSs ck_law_text exs cd_law_text (defBody st_law_text) = true := by decide +kernel
theorem sc_law_told_k13 : FnScope N_law_told_k13 ["_law_many", "_law_book_here", "_law_text_here"] (defScope st_law_told_k13) := ⟨rfl, rfl, rfl, by decide +kernel, rfl, by decide +kernel, by decide +kernel⟩
theorem ok_law_told_k13 : okSs ck_law_told_k13 exs cd_law_told_k13 (defBody st_law_told_k13) = true := by decide +kernel
theorem sc_law_k13 : FnScope N_law_k13 ["_law_script"] (defScope st_law_k13) := ⟨rfl, rfl, rfl, by decide +kernel, rfl, by decide +kernel, by decide +kernel⟩
theorem ok_law_k13 : okSs ck_law_k13 exs cd_law_k13 (defBody st_law_k13) = true := by decide +kernel
abbrev st_refused : Stmt := top 31
theorem sc_refused : FnScope RefN ["_law_e"] (defScope st_refused) := ⟨rfl, rfl, rfl, by decide +kernel, rfl, by decide +kernel, by decide +kernel⟩
theorem ok_refused : refBody [.source, .book, .piece] [.letters, .word, .size] (defBody st_refused) = true := by decide +kernel
def d_is_number : He.DefD := ⟨("is_number", none), "is_number", "is_number", defArgs st_is_number, defBody st_is_number, defScope st_is_number, [], []⟩
def d_letters_of : He.DefD := ⟨("letters_of", none), "letters_of", "letters_of", defArgs st_letters_of, defBody st_letters_of, defScope st_letters_of, [], []⟩
def d_is_text : He.DefD := ⟨("is_text", none), "is_text", "is_text", defArgs st_is_text, defBody st_is_text, defScope st_is_text, [], []⟩
def d_need_text : He.DefD := ⟨("need_text", none), "need_text", "need_text", defArgs st_need_text, defBody st_need_text, defScope st_need_text, [], []⟩
def d_are_pieces : He.DefD := ⟨("are_pieces", none), "are_pieces", "are_pieces", defArgs st_are_pieces, defBody st_are_pieces, defScope st_are_pieces, [], []⟩
def d_all_heads : He.DefD := ⟨("all_heads", none), "all_heads", "all_heads", defArgs st_all_heads, defBody st_all_heads, defScope st_all_heads, [], []⟩
def d_inner_of : He.DefD := ⟨("inner_of", none), "inner_of", "inner_of", defArgs st_inner_of, defBody st_inner_of, defScope st_inner_of, [], []⟩
def d_twice : He.DefD := ⟨("twice", none), "twice", "twice", defArgs st_twice, defBody st_twice, defScope st_twice, [], []⟩
def d_gap : He.DefD := ⟨("gap", none), "gap", "gap", defArgs st_gap, defBody st_gap, defScope st_gap, [], []⟩
def d_is_book : He.DefD := ⟨("is_book", none), "is_book", "is_book", defArgs st_is_book, defBody st_is_book, defScope st_is_book, [], []⟩
def d_need_book : He.DefD := ⟨("need_book", none), "need_book", "need_book", defArgs st_need_book, defBody st_need_book, defScope st_need_book, [], []⟩
def d_next_piece : He.DefD := ⟨("next_piece", none), "next_piece", "next_piece", defArgs st_next_piece, defBody st_next_piece, defScope st_next_piece, [], []⟩
def d_cut : He.DefD := ⟨("cut", none), "cut", "cut", defArgs st_cut, defBody st_cut, defScope st_cut, [], []⟩
def d_law_cell : He.DefD := ⟨("_law_cell", none), "_law_cell", "_law_cell", defArgs st_law_cell, defBody st_law_cell, defScope st_law_cell, [], []⟩
def d_law_drawn : He.DefD := ⟨("_law_drawn", none), "_law_drawn", "_law_drawn", defArgs st_law_drawn, defBody st_law_drawn, defScope st_law_drawn, [], []⟩
def d_law_book : He.DefD := ⟨("_law_book", none), "_law_book", "_law_book", defArgs st_law_book, defBody st_law_book, defScope st_law_book, [], []⟩
def d_law_source : He.DefD := ⟨("_law_source", none), "_law_source", "_law_source", defArgs st_law_source, defBody st_law_source, defScope st_law_source, [], []⟩
def d_law_text : He.DefD := ⟨("_law_text", none), "_law_text", "_law_text", defArgs st_law_text, defBody st_law_text, defScope st_law_text, [], []⟩
def d_law_told_k13 : He.DefD := ⟨("_law_told", none), "_law_told", "_law_told", defArgs st_law_told_k13, defBody st_law_told_k13, defScope st_law_told_k13, [], []⟩
def d_law_k13 : He.DefD := ⟨("law", none), "law", "law", defArgs st_law_k13, defBody st_law_k13, defScope st_law_k13, [], []⟩
def d_refused : He.DefD := ⟨("_law_refused", none), "_law_refused", "_law_refused", defArgs st_refused, defBody st_refused, defScope st_refused, [], []⟩
def fn : List He.DefD := [d_is_number, d_letters_of, d_is_text, d_need_text, d_are_pieces, d_all_heads, d_inner_of, d_twice, d_gap, d_is_book, d_need_book, d_next_piece, d_cut, d_law_cell, d_law_drawn, d_law_book, d_law_source, d_law_text, d_law_told_k13, d_law_k13, d_refused]
def fa : List He.Fa := fnames.map He.Fa.free ++ [.glo "is_number", .glo "letters_of", .glo "is_text", .glo "need_text", .glo "are_pieces", .glo "all_heads", .glo "inner_of", .glo "twice", .glo "gap", .glo "is_book", .glo "need_book", .glo "next_piece", .glo "cut", .glo "_law_cell", .glo "_law_drawn", .glo "_law_book", .glo "_law_source", .glo "_law_text", .glo "_law_told", .glo "law", .glo "NoLetters", .exc "NoLetters", .glo "NoBook", .exc "NoBook", .glo "_law_refused", .free "ValueError", .glo "NoSource", .glo "NoPiece", .glo "NoWord", .glo "NoSize", .glo "PieceError", .str "LETTERS" "abcd", .int "MOST_PIECES" 32]
abbrev R : PySem.W.OpenRow := PySem.W.OpenLaw.row PySem.Challenge.rw_piecebooks_k13_cut
def xes : List Ex := [.source, .book, .piece, .letters, .word, .size]
def xl : List Ex := [.source, .book, .piece, .letters, .word, .size]
def xms : List (Option Ex) := [none]
abbrev hk : PySem.W.Hook := hookX 6 fa fn xes xl xms
def ob (s : PySem.W.SharedT) : AlX := obsXG 6 fa fn xes xl xms (HandSHeadRun.getT s)
theorem ob_eq (s : PySem.W.SharedT) : ob s = hk.obs s.abs := obsXG_eq (HandSHeadRun.getT_eq s)
def loose0 : List PySem.Str := ["PieceError", "NoSource", "NoBook", "NoPiece", "NoLetters", "NoWord", "NoSize", "LETTERS", "is_number", "letters_of", "is_text", "need_text", "MOST_PIECES", "are_pieces", "all_heads", "inner_of", "twice", "gap", "is_book", "need_book", "next_piece", "cut", "_law_cell", "_law_drawn", "_law_book", "_law_source", "_law_text", "_law_refused", "_law_told"]
def loose : List PySem.Str := loose0
theorem hrun (w : World) : HandSHeadRun.RunEq R (PySem.W.view R.prog [33]) hk ob 6000 loose w := by
  intro os
  kernel_rfl
def spLaw (K : PySem.W.Frag) : Sp := fun vs H Q _ => ∃ (a : Addr) (ns : List Int), vs = [.ref a] ∧ SqL K H a (ns.map V.int) ∧ ns.length ≤ 63 ∧ ∀ H', Q (.bl true) H'
theorem facts {P : Program} {w : World} {K : PySem.W.Frag} {h : Heap} {mg : Str → Option Value} {f : Addr} (X : K.In h) (G : h.Ns mainGlobals mg) (hfa : mg ("law" : Str) = some (.ref f)) (c : He.SaysD fa fn K) (cx : exB xes xl xms K = true) (hlaw : ∀ ns : List Int, ns.length ≤ 63 → f_law_k13 [.scr ns] = .ok (.bl true)) :
    ∃ fd : FuncData, (∀ (s : Shared) (v : Value), BindsTo s fd ⟨[v], []⟩ [("_law_script", v)]) ∧ ∀ base : Heap, K.In base → base.Ns mainGlobals mg → FnOk P w K mg base (CXe P) 8 f fd ["_law_script"] (spLaw K) := by
  obtain ⟨fd_is_number, F_is_number⟩ := c.def_ 0 (d := d_is_number) rfl
  obtain ⟨fd_letters_of, F_letters_of⟩ := c.def_ 1 (d := d_letters_of) rfl
  obtain ⟨fd_is_text, F_is_text⟩ := c.def_ 2 (d := d_is_text) rfl
  obtain ⟨fd_need_text, F_need_text⟩ := c.def_ 3 (d := d_need_text) rfl
  obtain ⟨fd_are_pieces, F_are_pieces⟩ := c.def_ 4 (d := d_are_pieces) rfl
  obtain ⟨fd_all_heads, F_all_heads⟩ := c.def_ 5 (d := d_all_heads) rfl
  obtain ⟨fd_inner_of, F_inner_of⟩ := c.def_ 6 (d := d_inner_of) rfl
  obtain ⟨fd_twice, F_twice⟩ := c.def_ 7 (d := d_twice) rfl
  obtain ⟨fd_gap, F_gap⟩ := c.def_ 8 (d := d_gap) rfl
  obtain ⟨fd_is_book, F_is_book⟩ := c.def_ 9 (d := d_is_book) rfl
  obtain ⟨fd_need_book, F_need_book⟩ := c.def_ 10 (d := d_need_book) rfl
  obtain ⟨fd_next_piece, F_next_piece⟩ := c.def_ 11 (d := d_next_piece) rfl
  obtain ⟨fd_cut, F_cut⟩ := c.def_ 12 (d := d_cut) rfl
  obtain ⟨fd_law_cell, F_law_cell⟩ := c.def_ 13 (d := d_law_cell) rfl
  obtain ⟨fd_law_drawn, F_law_drawn⟩ := c.def_ 14 (d := d_law_drawn) rfl
  obtain ⟨fd_law_book, F_law_book⟩ := c.def_ 15 (d := d_law_book) rfl
  obtain ⟨fd_law_source, F_law_source⟩ := c.def_ 16 (d := d_law_source) rfl
  obtain ⟨fd_law_text, F_law_text⟩ := c.def_ 17 (d := d_law_text) rfl
  obtain ⟨fd_law_told_k13, F_law_told_k13⟩ := c.def_ 18 (d := d_law_told_k13) rfl
  obtain ⟨fd_law_k13, F_law_k13⟩ := c.def_ 19 (d := d_law_k13) rfl
  have e := hfa.symm.trans (He.glo_ok X G (c.fact 36 (f := .glo "law") rfl))
  cases e
  have b := FunD.bindsA (ps := ["_law_script"]) F_law_k13 fun _ _ _ _ _ _ us hl => match us, hl with | [_], _ => rfl
  refine ⟨fd_law_k13, fun s v => b s [v] rfl, fun base _ _ => ?_⟩
  have fr : ∀ y ∈ fnames, mg y = none := fun y hy => by
    obtain ⟨i, hi⟩ := List.getElem?_of_mem (List.mem_append_left _ (List.mem_map_of_mem hy) : He.Fa.free y ∈ fa)
    exact He.free_ok X G (c.fact i hi)
  have rs : ∀ e ∈ exs, RsG K mg (He.ga K e.nm) e.nm := fun e he => by
    unfold exs at he
    rcases List.mem_cons.mp he with rfl | he
    · exact rs_of X G (c.fact 38 (f := .exc "NoLetters") rfl) (c.fact 37 (f := .glo "NoLetters") rfl)
    rcases List.mem_cons.mp he with rfl | he
    · exact rs_of X G (c.fact 40 (f := .exc "NoBook") rfl) (c.fact 39 (f := .glo "NoBook") rfl)
    cases he
  have c_LETTERS : CnOk K mg ("LETTERS", .str [97, 98, 99, 100]) := cn_str (z := "abcd") (He.str_ok X G (c.fact 48 (f := .str "LETTERS" "abcd") rfl))
  have c_MOST_PIECES : CnOk K mg ("MOST_PIECES", .int 32) := cn_int (He.int_ok X G (c.fact 49 (f := .int "MOST_PIECES" 32) rfl))
  obtain ⟨fd_refused, F_refused⟩ := c.def_ 20 (d := d_refused) rfl
  have xgl : ∀ e ∈ xl, mg e.nm = some (.ref (ecA K e)) := fun e he => by
    unfold xl at he
    rcases List.mem_cons.mp he with rfl | he
    · exact He.glo_ok X G (c.fact 43 (f := .glo "NoSource") rfl)
    rcases List.mem_cons.mp he with rfl | he
    · exact He.glo_ok X G (c.fact 39 (f := .glo "NoBook") rfl)
    rcases List.mem_cons.mp he with rfl | he
    · exact He.glo_ok X G (c.fact 44 (f := .glo "NoPiece") rfl)
    rcases List.mem_cons.mp he with rfl | he
    · exact He.glo_ok X G (c.fact 37 (f := .glo "NoLetters") rfl)
    rcases List.mem_cons.mp he with rfl | he
    · exact He.glo_ok X G (c.fact 45 (f := .glo "NoWord") rfl)
    rcases List.mem_cons.mp he with rfl | he
    · exact He.glo_ok X G (c.fact 46 (f := .glo "NoSize") rfl)
    cases he
  have xf : ExF K mg (ecA K) ([.source, .book, .piece] ++ [.letters, .word, .size]) := exF_of cx xgl (fr _ (by decide)) (He.free_ok X G (c.fact 42 (f := .free "ValueError") rfl)) (by decide)
  have g_refused := ref_ok (P := P) (w := w) (mg := mg) (base := base) F_refused sc_refused ok_refused xf (by decide +kernel)
  have b_refused := FunD.bindsN (ps := ["_law_e"]) F_refused fun _ _ _ _ _ _ us hl => match us, hl with | [_], _ => rfl
  have g_is_number : FnG P w K mg base (fun e => He.ga K e.nm) 1 "is_number" f_is_number := fn_ok (glb_of (ec := fun e => He.ga K e.nm) (k := 0) (Γ := G_is_number) (C := C_is_number) (exs := exs) (trs := ck_is_number.trs) trivial trivial fr rs (fun d hd => by cases hd)) ck_is_number cd_is_number F_is_number sc_is_number ok_is_number rfl rfl (by decide +kernel) rfl rfl rfl (He.glo_ok X G (c.fact 17 (f := .glo "is_number") rfl)) (FunD.bindsN F_is_number fun _ _ _ _ _ _ us hl => match us, hl with | [_, _, _], _ => rfl)
  have g_letters_of : FnG P w K mg base (fun e => He.ga K e.nm) 1 "letters_of" f_letters_of := fn_ok (glb_of (ec := fun e => He.ga K e.nm) (k := 0) (Γ := G_letters_of) (C := C_letters_of) (exs := exs) (trs := ck_letters_of.trs) trivial ⟨c_LETTERS, trivial⟩ fr rs (fun d hd => by cases hd)) ck_letters_of cd_letters_of F_letters_of sc_letters_of ok_letters_of rfl rfl (by decide +kernel) rfl rfl rfl (He.glo_ok X G (c.fact 18 (f := .glo "letters_of") rfl)) (FunD.bindsN F_letters_of fun _ _ _ _ _ _ us hl => match us, hl with | [_], _ => rfl)
  have g_is_text : FnG P w K mg base (fun e => He.ga K e.nm) 2 "is_text" f_is_text := fn_ok (glb_of (ec := fun e => He.ga K e.nm) (k := 1) (Γ := G_is_text) (C := C_is_text) (exs := exs) (trs := ck_is_text.trs) ⟨g_letters_of.mono (by decide), trivial⟩ trivial fr rs (fun d hd => by cases hd)) ck_is_text cd_is_text F_is_text sc_is_text ok_is_text rfl rfl (by decide +kernel) rfl rfl rfl (He.glo_ok X G (c.fact 19 (f := .glo "is_text") rfl)) (FunD.bindsN F_is_text fun _ _ _ _ _ _ us hl => match us, hl with | [_, _], _ => rfl)
  have g_need_text : FnG P w K mg base (fun e => He.ga K e.nm) 3 "need_text" f_need_text := fn_ok (glb_of (ec := fun e => He.ga K e.nm) (k := 2) (Γ := G_need_text) (C := C_need_text) (exs := exs) (trs := ck_need_text.trs) ⟨g_is_text.mono (by decide), trivial⟩ trivial fr rs (fun d hd => by cases hd)) ck_need_text cd_need_text F_need_text sc_need_text ok_need_text rfl rfl (by decide +kernel) rfl rfl rfl (He.glo_ok X G (c.fact 20 (f := .glo "need_text") rfl)) (FunD.bindsN F_need_text fun _ _ _ _ _ _ us hl => match us, hl with | [_, _], _ => rfl)
  have g_are_pieces : FnG P w K mg base (fun e => He.ga K e.nm) 3 "are_pieces" f_are_pieces := fn_ok (glb_of (ec := fun e => He.ga K e.nm) (k := 2) (Γ := G_are_pieces) (C := C_are_pieces) (exs := exs) (trs := ck_are_pieces.trs) ⟨g_is_text.mono (by decide), trivial⟩ ⟨c_MOST_PIECES, trivial⟩ fr rs (fun d hd => by cases hd)) ck_are_pieces cd_are_pieces F_are_pieces sc_are_pieces ok_are_pieces rfl rfl (by decide +kernel) rfl rfl rfl (He.glo_ok X G (c.fact 21 (f := .glo "are_pieces") rfl)) (FunD.bindsN F_are_pieces fun _ _ _ _ _ _ us hl => match us, hl with | [_, _], _ => rfl)
  have g_all_heads : FnG P w K mg base (fun e => He.ga K e.nm) 1 "all_heads" f_all_heads := fn_ok (glb_of (ec := fun e => He.ga K e.nm) (k := 0) (Γ := G_all_heads) (C := C_all_heads) (exs := exs) (trs := ck_all_heads.trs) trivial trivial fr rs (fun d hd => by cases hd)) ck_all_heads cd_all_heads F_all_heads sc_all_heads ok_all_heads rfl rfl (by decide +kernel) rfl rfl rfl (He.glo_ok X G (c.fact 22 (f := .glo "all_heads") rfl)) (FunD.bindsN F_all_heads fun _ _ _ _ _ _ us hl => match us, hl with | [_], _ => rfl)
  have g_inner_of : FnG P w K mg base (fun e => He.ga K e.nm) 2 "inner_of" f_inner_of := fn_ok (glb_of (ec := fun e => He.ga K e.nm) (k := 1) (Γ := G_inner_of) (C := C_inner_of) (exs := exs) (trs := ck_inner_of.trs) ⟨g_all_heads.mono (by decide), trivial⟩ trivial fr rs (fun d hd => by cases hd)) ck_inner_of cd_inner_of F_inner_of sc_inner_of ok_inner_of rfl rfl (by decide +kernel) rfl rfl rfl (He.glo_ok X G (c.fact 23 (f := .glo "inner_of") rfl)) (FunD.bindsN F_inner_of fun _ _ _ _ _ _ us hl => match us, hl with | [_], _ => rfl)
  have g_twice : FnG P w K mg base (fun e => He.ga K e.nm) 2 "twice" f_twice := fn_ok (glb_of (ec := fun e => He.ga K e.nm) (k := 1) (Γ := G_twice) (C := C_twice) (exs := exs) (trs := ck_twice.trs) ⟨g_all_heads.mono (by decide), trivial⟩ trivial fr rs (fun d hd => by cases hd)) ck_twice cd_twice F_twice sc_twice ok_twice rfl rfl (by decide +kernel) rfl rfl rfl (He.glo_ok X G (c.fact 24 (f := .glo "twice") rfl)) (FunD.bindsN F_twice fun _ _ _ _ _ _ us hl => match us, hl with | [_], _ => rfl)
  have g_gap : FnG P w K mg base (fun e => He.ga K e.nm) 2 "gap" f_gap := fn_ok (glb_of (ec := fun e => He.ga K e.nm) (k := 1) (Γ := G_gap) (C := C_gap) (exs := exs) (trs := ck_gap.trs) ⟨g_all_heads.mono (by decide), g_letters_of.mono (by decide), trivial⟩ trivial fr rs (fun d hd => by cases hd)) ck_gap cd_gap F_gap sc_gap ok_gap rfl rfl (by decide +kernel) rfl rfl rfl (He.glo_ok X G (c.fact 25 (f := .glo "gap") rfl)) (FunD.bindsN F_gap fun _ _ _ _ _ _ us hl => match us, hl with | [_, _], _ => rfl)
  have g_is_book : FnG P w K mg base (fun e => He.ga K e.nm) 4 "is_book" f_is_book := fn_ok (glb_of (ec := fun e => He.ga K e.nm) (k := 3) (Γ := G_is_book) (C := C_is_book) (exs := exs) (trs := ck_is_book.trs) ⟨g_is_number.mono (by decide), g_are_pieces.mono (by decide), g_twice.mono (by decide), g_gap.mono (by decide), trivial⟩ trivial fr rs (fun d hd => by cases hd)) ck_is_book cd_is_book F_is_book sc_is_book ok_is_book rfl rfl (by decide +kernel) rfl rfl rfl (He.glo_ok X G (c.fact 26 (f := .glo "is_book") rfl)) (FunD.bindsN F_is_book fun _ _ _ _ _ _ us hl => match us, hl with | [_, _], _ => rfl)
  have g_need_book : FnG P w K mg base (fun e => He.ga K e.nm) 5 "need_book" f_need_book := fn_ok (glb_of (ec := fun e => He.ga K e.nm) (k := 4) (Γ := G_need_book) (C := C_need_book) (exs := exs) (trs := ck_need_book.trs) ⟨g_is_book.mono (by decide), trivial⟩ trivial fr rs (fun d hd => by cases hd)) ck_need_book cd_need_book F_need_book sc_need_book ok_need_book rfl rfl (by decide +kernel) rfl rfl rfl (He.glo_ok X G (c.fact 27 (f := .glo "need_book") rfl)) (FunD.bindsN F_need_book fun _ _ _ _ _ _ us hl => match us, hl with | [_, _], _ => rfl)
  have g_next_piece : FnG P w K mg base (fun e => He.ga K e.nm) 1 "next_piece" f_next_piece := fn_ok (glb_of (ec := fun e => He.ga K e.nm) (k := 0) (Γ := G_next_piece) (C := C_next_piece) (exs := exs) (trs := ck_next_piece.trs) trivial trivial fr rs (fun d hd => by cases hd)) ck_next_piece cd_next_piece F_next_piece sc_next_piece ok_next_piece rfl rfl (by decide +kernel) rfl rfl rfl (He.glo_ok X G (c.fact 28 (f := .glo "next_piece") rfl)) (FunD.bindsN F_next_piece fun _ _ _ _ _ _ us hl => match us, hl with | [_, _], _ => rfl)
  have g_cut : FnG P w K mg base (fun e => He.ga K e.nm) 6 "cut" f_cut := fn_okT (pre := (.cons (.expr (.call 0 (.cons (.var 0) (.cons (.var 1) .nil)))) (.cons (.expr (.call 1 (.cons (.var 0) (.cons (.var 2) .nil)))) (.cons (.setF 3 (.lst .nil)) (.cons (.set 4 (.call 2 (.cons (.var 1) (.cons (.var 2) .nil)))) (.cons (.whl t0_cut b1_cut) .nil)))))) (i := 3) (j := 2) (code := cd_cut) rfl rfl (by decide) (glb_of (ec := fun e => He.ga K e.nm) (k := 5) (Γ := G_cut) (C := C_cut) (exs := exs) (trs := ck_cut.trs) ⟨g_need_book.mono (by decide), g_need_text.mono (by decide), g_next_piece.mono (by decide), trivial⟩ trivial fr rs (fun d hd => by cases hd)) ck_cut F_cut sc_cut ok_cut rfl rfl rfl (by decide +kernel) rfl rfl rfl (He.glo_ok X G (c.fact 29 (f := .glo "cut") rfl)) (FunD.bindsN F_cut fun _ _ _ _ _ _ us hl => match us, hl with | [_, _, _], _ => rfl)
  have g_law_cell : FnG P w K mg base (fun e => He.ga K e.nm) 1 "_law_cell" f_law_cell := fn_ok (glb_of (ec := fun e => He.ga K e.nm) (k := 0) (Γ := G_law_cell) (C := C_law_cell) (exs := exs) (trs := ck_law_cell.trs) trivial trivial fr rs (fun d hd => by cases hd)) ck_law_cell cd_law_cell F_law_cell sc_law_cell ok_law_cell rfl rfl (by decide +kernel) rfl rfl rfl (He.glo_ok X G (c.fact 30 (f := .glo "_law_cell") rfl)) (FunD.bindsN F_law_cell fun _ _ _ _ _ _ us hl => match us, hl with | [_, _], _ => rfl)
  have g_law_drawn : FnG P w K mg base (fun e => He.ga K e.nm) 2 "_law_drawn" f_law_drawn := fn_ok (glb_of (ec := fun e => He.ga K e.nm) (k := 1) (Γ := G_law_drawn) (C := C_law_drawn) (exs := exs) (trs := ck_law_drawn.trs) ⟨g_law_cell.mono (by decide), trivial⟩ trivial fr rs (fun d hd => by cases hd)) ck_law_drawn cd_law_drawn F_law_drawn sc_law_drawn ok_law_drawn rfl rfl (by decide +kernel) rfl rfl rfl (He.glo_ok X G (c.fact 31 (f := .glo "_law_drawn") rfl)) (FunD.bindsN F_law_drawn fun _ _ _ _ _ _ us hl => match us, hl with | [_, _, _], _ => rfl)
  have g_law_book : FnG P w K mg base (fun e => He.ga K e.nm) 3 "_law_book" f_law_book := fn_ok (glb_of (ec := fun e => He.ga K e.nm) (k := 2) (Γ := G_law_book) (C := C_law_book) (exs := exs) (trs := ck_law_book.trs) ⟨g_law_drawn.mono (by decide), trivial⟩ trivial fr rs (fun d hd => by cases hd)) ck_law_book cd_law_book F_law_book sc_law_book ok_law_book rfl rfl (by decide +kernel) rfl rfl rfl (He.glo_ok X G (c.fact 32 (f := .glo "_law_book") rfl)) (FunD.bindsN F_law_book fun _ _ _ _ _ _ us hl => match us, hl with | [_, _, _, _], _ => rfl)
  have g_law_source : FnG P w K mg base (fun e => He.ga K e.nm) 3 "_law_source" f_law_source := fn_ok (glb_of (ec := fun e => He.ga K e.nm) (k := 2) (Γ := G_law_source) (C := C_law_source) (exs := exs) (trs := ck_law_source.trs) ⟨g_law_drawn.mono (by decide), trivial⟩ trivial fr rs (fun d hd => by cases hd)) ck_law_source cd_law_source F_law_source sc_law_source ok_law_source rfl rfl (by decide +kernel) rfl rfl rfl (He.glo_ok X G (c.fact 33 (f := .glo "_law_source") rfl)) (FunD.bindsN F_law_source fun _ _ _ _ _ _ us hl => match us, hl with | [_, _, _], _ => rfl)
  have g_law_text : FnG P w K mg base (fun e => He.ga K e.nm) 3 "_law_text" f_law_text := fn_ok (glb_of (ec := fun e => He.ga K e.nm) (k := 2) (Γ := G_law_text) (C := C_law_text) (exs := exs) (trs := ck_law_text.trs) ⟨g_law_drawn.mono (by decide), trivial⟩ trivial fr rs (fun d hd => by cases hd)) ck_law_text cd_law_text F_law_text sc_law_text ok_law_text rfl rfl (by decide +kernel) rfl rfl rfl (He.glo_ok X G (c.fact 34 (f := .glo "_law_text") rfl)) (FunD.bindsN F_law_text fun _ _ _ _ _ _ us hl => match us, hl with | [_, _, _, _], _ => rfl)
  have tr_law_told_k13 : ∀ d ∈ ck_law_told_k13.trs, TrG P w K mg base (ecA K) 6 d := fun d hd => by
    unfold ck_law_told_k13 at hd
    rcases List.mem_cons.mp hd with rfl | hd
    · exact trg_ref (m := none) (l' := [.source, .book, .piece, .letters, .word, .size]) cx (by decide) (He.glo_ok X G (c.fact 47 (f := .glo "PieceError") rfl)) (g_refused.mono (by decide)) (He.glo_ok X G (c.fact 41 (f := .glo "_law_refused") rfl)) F_refused.kp b_refused (by decide +kernel)
    cases hd
  have g_law_told_k13 : FnG P w K mg base (fun e => He.ga K e.nm) 7 "_law_told" f_law_told_k13 := fn_ok (glb_of (ec := fun e => He.ga K e.nm) (k := 6) (Γ := G_law_told_k13) (C := C_law_told_k13) (exs := exs) (trs := ck_law_told_k13.trs) ⟨g_cut.mono (by decide), trivial⟩ trivial fr rs tr_law_told_k13) ck_law_told_k13 cd_law_told_k13 F_law_told_k13 sc_law_told_k13 ok_law_told_k13 rfl rfl (by decide +kernel) rfl rfl rfl (He.glo_ok X G (c.fact 35 (f := .glo "_law_told") rfl)) (FunD.bindsN F_law_told_k13 fun _ _ _ _ _ _ us hl => match us, hl with | [_, _, _], _ => rfl)
  have g_law : FnOk P w K mg base (L2.CX P w) 8 _ fd_law_k13 ["_law_script"] (spP ⟨K, P, w⟩ (fun e => He.ga K e.nm) 1 f_law_k13) := fn_ok0 (glb_of (ec := fun e => He.ga K e.nm) (k := 7) (Γ := G_law_k13) (C := C_law_k13) (exs := exs) (trs := ck_law_k13.trs) ⟨g_law_drawn.mono (by decide), g_law_book.mono (by decide), g_law_text.mono (by decide), g_law_told_k13.mono (by decide), g_inner_of.mono (by decide), g_cut.mono (by decide), trivial⟩ trivial fr rs (fun d hd => by cases hd)) ck_law_k13 cd_law_k13 F_law_k13 sc_law_k13 ok_law_k13 rfl rfl (by decide +kernel) rfl rfl rfl
  exact (fn_cx g_law).imp fun vs H Q E hsp => by
    obtain ⟨a, ns, rfl, hS, hl, hQ⟩ := hsp
    refine ⟨[], [.scr ns], (fun a h => by cases h), .cons (.scr (by rw [hid_nil]; exact hS)) .nil, rfl, ?_⟩
    rw [hlaw ns hl]
    intro v H' _ r
    cases r
    exact hQ H'
theorem holds (hlaw : ∀ ns : List Int, ns.length ≤ 63 → f_law_k13 [.scr ns] = .ok (.bl true)) : PySem.Challenge.rw_piecebooks_k13_cut.Holds := by
  w_on; o_law
  refine HandSHeadRun.head_any (r := PySem.W.OpenLaw.row PySem.Challenge.rw_piecebooks_k13_cut) (q := PySem.W.view (PySem.W.OpenLaw.row PySem.Challenge.rw_piecebooks_k13_cut).prog [33]) (H := hk) (ob := ob) (M := 6000) (loose := loose) (d := HandSHeadRun.topDef (PySem.W.OpenLaw.row PySem.Challenge.rw_piecebooks_k13_cut).prog 33) (kwd := []) ob_eq
    (by kernel_rfl) (fun s => by kernel_rfl) hrun (by kernel_rfl) (by kernel_rfl) (by kernel_rfl) (by rfl) (by first | assumption | decide +kernel) (by decide +kernel) ⟨rfl, rfl, rfl, rfl, rfl, by decide +kernel⟩ ?hw ?hc
  case hw => w_witness2
  case hc =>
    refine L2.walk_ofE (l := PySem.Challenge.rw_piecebooks_k13_cut) (n := 63) (k := 8) (x := "_law_script") (CX := CXe (PySem.Challenge.rw_piecebooks_k13_cut).prog) rfl (by decide) (by kernel_rfl) ⟨rfl, by decide, by decide⟩ ?F cxe_end
    intro w mg fa h Y G hmg0
    obtain ⟨K, KX, c, cx⟩ := Y
    have hmg : mg ("law" : PySem.Str) = some (.ref fa) := by
      have e : (HandSHeadRun.topDef (PySem.W.OpenLaw.row PySem.Challenge.rw_piecebooks_k13_cut).prog 33).name = ("law" : PySem.Str) := by kernel_rfl
      rw [← e]
      exact hmg0
    obtain ⟨fd, hb, hF⟩ := facts (P := (PySem.Challenge.rw_piecebooks_k13_cut).prog) (w := w) KX G hmg c cx hlaw
    exact ⟨K, fd, spLaw K, KX, hb, fun H a ns hl _ hS => ⟨a, ns, rfl, hS, hl, fun _ => rfl⟩, hF⟩
end Pb
namespace Pb
open PySem PLq Bk
open L2 (atI ixN)
abbrev nI (n : Nat) : D := .int (n : Int)
abbrev bkD (b : List T) : D := .tup (b.map D.str)
abbrev lsD (b : List T) : D := .lst (b.map D.str)
def frD (q : Rat) : D := .tup [.int q.num, .int (q.den : Int)]
theorem cmp_eq {a b : D} (h : fine a = true) (k : fine b = true) : cmpD .eq a b = some (.bl (eqD a b)) := by
  show (if (fine a && fine b) = true then some (D.bl (eqD a b)) else none) = _
  rw [h, k]; rfl
theorem cmp_ne {a b : D} (h : fine a = true) (k : fine b = true) : cmpD .ne a b = some (.bl (!eqD a b)) := by
  show (if (fine a && fine b) = true then some (D.bl (!eqD a b)) else none) = _
  rw [h, k]; rfl
theorem eq_int (i j : Int) : eqD (.int i) (.int j) = decide (i = j) := by
  show (i == j) = _
  by_cases h : i = j <;> simp [h]
theorem eq_str (x y : T) : eqD (.str x) (.str y) = decide (x = y) := by
  show (mkS x == mkS y) = _
  by_cases h : x = y
  · subst h; simp
  · have : mkS x ≠ mkS y := fun e => h (mkS_inj e)
    simp [h, this]
theorem eqs_map {α : Type} [DecidableEq α] {f : α → D} (h : ∀ a b, eqD (f a) (f b) = decide (a = b)) : ∀ l m : List α, PyData.eqvAll (toPys (l.map f)) (toPys (m.map f)) = decide (l = m)
  | [], [] => rfl
  | [], b :: m => rfl
  | a :: l, [] => rfl
  | a :: l, b :: m => by
    show (eqD (f a) (f b) && PyData.eqvAll (toPys (l.map f)) (toPys (m.map f))) = _
    rw [h, eqs_map h l m]
    by_cases e : a = b <;> by_cases e2 : l = m <;> simp [e, e2]
theorem eq_lstM {α : Type} [DecidableEq α] {f : α → D} (h : ∀ a b, eqD (f a) (f b) = decide (a = b)) (l m : List α) : eqD (.lst (l.map f)) (.lst (m.map f)) = decide (l = m) := eqs_map h l m
theorem eq_ls (a b : List T) : eqD (lsD a) (lsD b) = decide (a = b) := eq_lstM eq_str a b
theorem eq_t2 (a b c d : D) : eqD (.tup [a, b]) (.tup [c, d]) = (eqD a c && eqD b d) := by
  show (eqD a c && (eqD b d && true)) = _
  rw [Bool.and_true]
theorem eq_scr (ns : List Int) : eqD (.scr ns) (.lst []) = ns.isEmpty := by cases ns <;> rfl
def lowD (k : Nat) (d : D) : Bool := (toPy d).canLay0 && decide ((toPy d).depth ≤ k)
theorem fine_low {k : Nat} {d : D} (h : lowD k d = true) (hk : k ≤ 64) : fine d = true := by
  unfold lowD at h
  simp only [Bool.and_eq_true, decide_eq_true_eq] at h
  show ((toPy d).canLay0 && decide ((toPy d).depth ≤ 64)) = true
  rw [h.1, decide_eq_true (by omega)]; rfl
theorem low_all {k : Nat} : ∀ {ds : List D}, (∀ d ∈ ds, lowD k d = true) → PyData.canLayAll0 (toPys ds) = true ∧ PyData.depthAll (toPys ds) ≤ k
  | [], _ => ⟨rfl, Nat.zero_le _⟩
  | d :: ds, h => by
    obtain ⟨h1, h2⟩ := low_all fun x hx => h x (List.mem_cons_of_mem _ hx)
    have h3 := h d List.mem_cons_self
    unfold lowD at h3
    simp only [Bool.and_eq_true, decide_eq_true_eq] at h3
    refine ⟨?_, ?_⟩
    · show ((toPy d).canLay0 && PyData.canLayAll0 (toPys ds)) = true
      rw [h1, h3.1]; rfl
    · show max (toPy d).depth (PyData.depthAll (toPys ds)) ≤ k
      omega
theorem low_lst {k : Nat} {ds : List D} (h : ∀ d ∈ ds, lowD k d = true) : lowD (k + 1) (.lst ds) = true := by
  obtain ⟨h1, h2⟩ := low_all h
  show (PyData.canLayAll0 (toPys ds) && decide (PyData.depthAll (toPys ds) + 1 ≤ k + 1)) = true
  rw [h1, decide_eq_true (by omega)]; rfl
theorem low_tup {k : Nat} {ds : List D} (h : ∀ d ∈ ds, lowD k d = true) : lowD (k + 1) (.tup ds) = true := by
  obtain ⟨h1, h2⟩ := low_all h
  show (PyData.canLayAll0 (toPys ds) && decide (PyData.depthAll (toPys ds) + 1 ≤ k + 1)) = true
  rw [h1, decide_eq_true (by omega)]; rfl
theorem low_lstM {α : Type} {k : Nat} {f : α → D} {l : List α} (h : ∀ a ∈ l, lowD k (f a) = true) : lowD (k + 1) (.lst (l.map f)) = true := low_lst fun d hd => by
  obtain ⟨a, ha, rfl⟩ := List.mem_map.mp hd
  exact h a ha
def OkT (x : T) : Prop := ∀ c ∈ x, c < 1114112
def OkB (b : List T) : Prop := ∀ p ∈ b, OkT p
theorem OkT.nil : OkT [] := fun c h => by cases h
theorem okT_app {x y : T} : OkT (x ++ y) ↔ OkT x ∧ OkT y := ⟨fun h => ⟨fun c hc => h c (List.mem_append_left _ hc), fun c hc => h c (List.mem_append_right _ hc)⟩, fun h c hc => (List.mem_append.mp hc).elim (h.1 c) (h.2 c)⟩
theorem okB_app {x y : List T} : OkB (x ++ y) ↔ OkB x ∧ OkB y := ⟨fun h => ⟨fun c hc => h c (List.mem_append_left _ hc), fun c hc => h c (List.mem_append_right _ hc)⟩, fun h c hc => (List.mem_append.mp hc).elim (h.1 c) (h.2 c)⟩
theorem okB_cons {c : T} {y : List T} : OkB (c :: y) ↔ OkT c ∧ OkB y := ⟨fun h => ⟨h c List.mem_cons_self, fun d hd => h d (List.mem_cons_of_mem _ hd)⟩, fun h d hd => (List.mem_cons.mp hd).elim (fun e => e ▸ h.1) (h.2 d)⟩
theorem okB_nil : OkB [] ↔ True := ⟨fun _ => trivial, fun _ c h => by cases h⟩
theorem vt_ok {m : Nat} {x : T} (h : VT m x) : OkT x := fun c hc => by
  have h1 : c ∈ [97, 98, 99, 100] := List.mem_of_mem_take (h c hc)
  simp only [List.mem_cons, List.not_mem_nil, or_false] at h1
  omega
theorem bk_ok {m : Nat} {b : List T} (h : BK m b) : OkB b := fun p hp => vt_ok (h.vt p hp)
theorem low_str {x : T} (h : OkT x) : lowD 0 (.str x) = true := by
  show ((mkS x).cps.all (· < 0x110000) && true) = true
  rw [Bool.and_true, ← Array.all_toList, mkS_toList, List.all_eq_true]
  exact fun c hc => decide_eq_true (h c hc)
theorem low_int (i : Int) : lowD 0 (.int i) = true := rfl
theorem low_up {k m : Nat} {d : D} (h : lowD k d = true) (hk : k ≤ m) : lowD m d = true := by
  unfold lowD at h ⊢
  simp only [Bool.and_eq_true, decide_eq_true_eq] at h ⊢
  exact ⟨h.1, by omega⟩
theorem low_ls {b : List T} (h : OkB b) : lowD 1 (lsD b) = true := low_lstM fun p hp => low_str (h p hp)
theorem fine_ls {b : List T} (h : OkB b) : fine (lsD b) = true := fine_low (low_ls h) (by decide)
theorem fine_str {x : T} (h : OkT x) : fine (.str x) = true := fine_low (low_str h) (by decide)
theorem fine_scr (ns : List Int) : fine (.scr ns) = true := by
  have e : toPy (.scr ns) = toPy (.lst (ns.map D.int)) := by
    show PyData.list (ns.map PyData.int) = PyData.list (toPys (ns.map D.int))
    rw [toPys_map, List.map_map]; rfl
  have := fine_low (low_lstM (l := ns) fun i _ => low_int i) (by decide : 1 ≤ 64)
  unfold fine at this ⊢
  rw [e]; exact this
theorem cne_str {x y : T} (hx : OkT x) (hy : OkT y) : cmpD .ne (.str x) (.str y) = some (.bl (!decide (x = y))) := by rw [cmp_ne (fine_str hx) (fine_str hy), eq_str]
theorem cne_ls {x y : List T} (hx : OkB x) (hy : OkB y) : cmpD .ne (lsD x) (lsD y) = some (.bl (!decide (x = y))) := by rw [cmp_ne (fine_ls hx) (fine_ls hy), eq_ls]
theorem is_non (d : D) : cmpD .is d .non = some (.bl (isNonD d)) := Eq.trans rfl rfl
theorem isn_non (d : D) : cmpD .isn d .non = some (.bl (!isNonD d)) := Eq.trans rfl rfl
theorem in_str (c : Nat) (z : T) : cmpD .in_ (.str [c]) (.str z) = some (.bl (decide (c ∈ z))) := Eq.trans rfl rfl
theorem any_str (x : T) (l : List T) : ((l.map D.str).any fun z => eqD z (.str x)) = decide (x ∈ l) := by
  rw [List.any_map]
  induction l with
  | nil => rfl
  | cons a l ih =>
    rw [List.any_cons, ih]
    show (eqD (.str a) (.str x) || _) = _
    rw [eq_str]
    by_cases h : x = a
    · subst h; simp
    · have : ¬ a = x := fun e => h e.symm
      simp [h, this]
theorem flats_str (l : List T) : (l.map D.str).all flatD = true := by rw [List.all_map]; simp [flatD]
theorem inD_bk (x : T) (b : List T) : inD (.str x) (bkD b) = some (decide (x ∈ b)) := by
  show (if (true && (b.map D.str).all flatD) = true then some ((b.map D.str).any fun z => eqD z (.str x)) else none) = _
  rw [flats_str, any_str]; rfl
theorem inD_ls {x : T} {b : List T} (hx : OkT x) (hb : OkB b) : inD (.str x) (lsD b) = some (decide (x ∈ b)) := by
  show (if (fine (.str x) && fine (lsD b)) = true then some ((b.map D.str).any fun z => eqD z (.str x)) else none) = _
  rw [fine_ls hb, fine_str hx, any_str]; rfl
theorem in_bk (x : T) (b : List T) : cmpD .in_ (.str x) (bkD b) = some (.bl (decide (x ∈ b))) := by
  show (inD (.str x) (bkD b)).map D.bl = _
  rw [inD_bk]; rfl
theorem nin_ls {x : T} {b : List T} (hx : OkT x) (hb : OkB b) : cmpD .nin (.str x) (lsD b) = some (.bl (!decide (x ∈ b))) := by
  show (inD (.str x) (lsD b)).map (fun k => D.bl (!k)) = _
  rw [inD_ls hx hb]; rfl
def sm (i : Int) : Prop := i.natAbs.log2 < 8000
theorem sm_of {i : Int} {k : Nat} (h : i.natAbs < 2 ^ k) (hk : k ≤ 8000) : sm i := by
  unfold sm
  by_cases z : i.natAbs = 0
  · rw [z]; decide
  · have := (Nat.log2_lt z).mpr h
    omega
theorem mul_ok {i j : Int} (h : sm i) (k : sm j) : mulD (.int i) (.int j) = some (.int (i * j)) := by
  show (if i.natAbs.log2 + j.natAbs.log2 < 1000000 then some (D.int (i * j)) else none) = _
  rw [if_pos (by unfold sm at h k; omega)]
theorem div_ok {i j : Int} (h : 0 < j) (k : sm j) : divD (.int i) (.int j) = some (.int (i / j)) := by
  show (if 0 < j ∧ j.natAbs.log2 < 9000 then some (D.int (i / j)) else none) = _
  rw [if_pos ⟨h, by unfold sm at k; omega⟩]
theorem mod_ok {i j : Int} (h : 0 < j) : modD (.int i) (.int j) = some (.int (i % j)) := by
  show (if 0 < j then some (D.int (i % j)) else none) = _
  rw [if_pos h]
theorem sm32 {i : Int} (h1 : -2147483648 ≤ i) (h2 : i < 2147483648) : sm i := sm_of (k := 32) (by omega) (by decide)
theorem rngL_range : ∀ (n : Nat) (lo : Nat), rngL (lo : Int) n 1 = (List.range' lo n).map fun i : Nat => nI i
  | 0, _ => rfl
  | n + 1, lo => by
    rw [List.range'_succ, List.map_cons, ← rngL_range n (lo + 1)]
    show D.int (lo : Int) :: rngL ((lo : Int) + 1) n 1 = _
    rfl
theorem rng1_nat (n : Nat) (h : n < 2 ^ 40) : rng1D (nI n) = some ((List.range n).map fun i : Nat => nI i) := by
  show (if inB (n : Int) = true then some (rngL 0 (n : Int).toNat 1) else none) = _
  rw [if_pos (show inB (n : Int) = true from decide_eq_true (by omega)), List.range_eq_range']
  exact congrArg some (rngL_range n 0)
theorem rng2_nat (a n : Nat) (ha : a < 2 ^ 40) (h : n < 2 ^ 40) : rng2D (nI a) (nI n) = some ((List.range' a (n - a)).map fun i : Nat => nI i) := by
  show (if (inB (a : Int) && inB (n : Int)) = true then some (rngL (a : Int) ((n : Int) - (a : Int)).toNat 1) else none) = _
  rw [if_pos (by rw [show inB (a : Int) = true from decide_eq_true (by omega), show inB (n : Int) = true from decide_eq_true (by omega)]; rfl), show ((n : Int) - (a : Int)).toNat = n - a by omega]
  exact congrArg some (rngL_range _ a)
theorem items_sT {x : T} (h : x.length ≤ 100000) : itemsD (.str x) = some (x.map fun c => D.str [c]) := items_s h
theorem pairs_maps {α β : Type} (f : α → D) (g : β → D) : ∀ (l : List α) (m : List β), pairs (l.map f) (m.map g) = (l.zip m).map fun p => D.tup [f p.1, g p.2]
  | [], m => by simp [pairs]
  | a :: l, [] => by simp [pairs]
  | a :: l, b :: m => by
    have := pairs_maps f g l m
    unfold pairs at this ⊢
    simp only [List.map_cons, List.zip_cons_cons, this]
theorem zip_t {α β : Type} (f : α → D) (g : β → D) (l : List α) (m : List β) : zipB (.tup (l.map f)) (.tup (m.map g)) = some ((l.zip m).map fun p => D.tup [f p.1, g p.2]) := congrArg some (pairs_maps f g l m)
theorem all_bl {α : Type} (k : α → Bool) (l : List α) : bifD .all [.lst (l.map fun a => D.bl (k a))] = some (.bl (l.all k)) := by
  have e : l.map (fun a => D.bl (k a)) = (l.map k).map D.bl := by rw [List.map_map]; rfl
  show (blsD (l.map fun a => D.bl (k a))).map (fun bs => D.bl (bs.all id)) = _
  rw [e, blsD_map, Option.map_some, List.all_map]; rfl
theorem join_nil : ∀ l : List T, joinT [] l = l.flatten
  | [] => rfl
  | [x] => by simp [joinT]
  | x :: y :: r => by
    show x ++ ([] ++ joinT [] (y :: r)) = _
    rw [join_nil (y :: r)]; simp
theorem strsD_mapS (l : List T) : strsD (l.map D.str) = some l := by
  induction l with
  | nil => rfl
  | cons a l ih => show (strsD (l.map D.str)).map (fun ns => a :: ns) = _; rw [ih]; rfl
theorem join_ls (l : List T) (h : (l.map List.length).sum ≤ 100000) : metD .join (.str []) [lsD l] = some (.str l.flatten) := by
  show (match strsD (l.map D.str) with
    | some ss => if (ss.map fun y : T => y.length).sum + ss.length * ([] : T).length ≤ szL then some (D.str (joinT [] ss)) else none
    | none => none) = _
  rw [strsD_mapS]
  show (if (l.map List.length).sum + l.length * 0 ≤ szL then some (D.str (joinT [] l)) else none) = _
  rw [if_pos (Nat.le_trans (by omega : _ ≤ 100000) (by decide)), join_nil]
end Pb
namespace Pb
open PySem PLq Bk
open L2 (atI ixN)
theorem leD_str (x y : T) : leD (.str x) (.str y) = !decide (y < x) := by
  unfold leD
  show (!PySem.W.dataLt (.str (mkS y)) (.str (mkS x))) = _
  rw [PySem.W.dataLt_str, mkS_toList, mkS_toList]
theorem sort_str (l : List T) : (l.map D.str).mergeSort leD = (isort l).map D.str := by
  have e : (l.map D.str).mergeSort leD = (l.mergeSort fun x y => !decide (y < x)).map D.str := by
    refine (List.map_mergeSort fun a _ b _ => ?_).symm
    rw [leD_str]
  rw [e]
  congr 1
  refine le_uniq ?_ (isort_le l) ((List.mergeSort_perm _ _).trans (isort_perm l).symm)
  have := List.pairwise_mergeSort (le := fun x y : T => !decide (y < x)) (fun a b c h1 h2 => by
    simp only [Bool.not_eq_true', decide_eq_false_iff_not] at h1 h2 ⊢
    intro h3
    rcases lt_tri a b with r | r | r
    · exact h2 (lt_tr h3 r)
    · subst r; exact h2 h3
    · exact h1 r) (fun a b => by
    simp only [Bool.or_eq_true, Bool.not_eq_true', decide_eq_false_iff_not]
    by_cases h : b < a
    · exact .inr (lt_as h)
    · exact .inl h) l
  exact this.imp fun {a b} h => by simpa using h
theorem srtOk_str {l : List T} (h : OkB l) (hl : l.length ≤ 100000) : srtOk (l.map D.str) = true := by
  unfold srtOk
  simp only [Bool.and_eq_true, List.all_map, List.all_eq_true, decide_eq_true_eq, List.length_map, Function.comp_apply, Bool.or_eq_true]
  refine ⟨⟨⟨fun x _ y _ => rfl, .inr fun x _ => trivial⟩, fun x hx => ⟨fine_str (h x hx), ?_⟩⟩, Nat.le_trans hl (by decide)⟩
  show 0 ≤ 50
  decide
theorem srt_ls {l : List T} (h : OkB l) (hl : l.length ≤ 100000) : xopD .sorted [lsD l] = some (lsD (isort l)) := by
  show (if srtOk (l.map D.str) then some (D.lst ((l.map D.str).mergeSort leD)) else none) = _
  rw [if_pos (srtOk_str h hl), sort_str]
theorem add_ls {a b : List T} (h : a.length + b.length ≤ 100000) : opD .add (lsD a) (lsD b) = some (lsD (a ++ b)) := by
  show (if (a.map D.str).length + (b.map D.str).length ≤ szL then some (D.lst (a.map D.str ++ b.map D.str)) else none) = _
  rw [List.length_map, List.length_map, if_pos (Nat.le_trans h (by decide)), ← List.map_append]
theorem add_bk {a b : List T} (h : a.length + b.length ≤ 100000) : opD .add (bkD a) (bkD b) = some (bkD (a ++ b)) := by
  show (if (a.map D.str).length + (b.map D.str).length ≤ szL then some (D.tup (a.map D.str ++ b.map D.str)) else none) = _
  rw [List.length_map, List.length_map, if_pos (Nat.le_trans h (by decide)), ← List.map_append]
theorem pop_nat {xs : List D} {i : Nat} (h : i < xs.length) : popD xs (nI i) = some (xs[i], xs.eraseIdx i) ∨ 2 ^ 40 ≤ i := by
  by_cases q : i < 2 ^ 40
  · left
    show (if inB (i : Int) = true then (ixN xs.length (i : Int)).bind (fun k => (xs[k]?).map fun x => (x, xs.eraseIdx k)) else none) = _
    rw [if_pos (show inB (i : Int) = true from decide_eq_true (by omega))]
    have e : ixN xs.length (i : Int) = some i := by simp [ixN, h]
    rw [e, Option.bind_some, List.getElem?_eq_getElem h, Option.map_some]
  · exact .inr (by omega)
theorem map_erase {α β : Type} (f : α → β) : ∀ (l : List α) (i : Nat), (l.map f).eraseIdx i = (l.eraseIdx i).map f
  | [], _ => rfl
  | a :: l, 0 => rfl
  | a :: l, i + 1 => by simp only [List.map_cons, List.eraseIdx_cons_succ, map_erase f l i]
theorem pop_ls {b : List T} {i : Nat} (h : i < b.length) (hb : b.length ≤ 100000) : popD (b.map D.str) (nI i) = some (.str b[i], (b.eraseIdx i).map D.str) := by
  rcases pop_nat (xs := b.map D.str) (i := i) (by rw [List.length_map]; exact h) with q | q
  · rw [q, List.getElem_map, map_erase]
  · omega
theorem cmp_scr (ns : List Int) : cmpD .eq (.scr ns) (.lst []) = some (.bl ns.isEmpty) := by
  rw [cmp_eq (fine_scr ns) rfl, eq_scr]
theorem e_law_cell (ns : List Int) (k : Nat) (hl : ns.length ≤ 63) (hk : k < 2 ^ 20) : ∃ v, f_law_cell [.scr ns, .int k] = .ok (.int v) := by
  have h7 : mulD (.int 7) (.int (k : Int)) = some (.int (7 * k)) := mul_ok (sm_of (k := 3) (by decide) (by decide)) (sm_of (k := 20) (by omega) (by decide))
  by_cases he : ns = []
  · subst he
    refine ⟨7 * k, ?_⟩
    simp only [u_law_cell, cd_law_cell, lenG_0, lenG_1, lenG_2, lenG_3, lenG_4, lenG_5, lenG_6, lenG_7, lenG_8, lenG_9, lenG_10, lenG_11, lenG_12, lenG_13, lenG_14, slot_0, slot_s, bind_k, bind_e, ofO_k, resO_k, resO_e, tstO_k, tstO_e, tst_k, tst_e, then_n, then_r, then_e, out_n, out_r, out_e, ifO_t, ifO_f, ifR_t, ifR_f, ev_var, ev_lvar, ev_int, ev_str, ev_bl, ev_non, ev_gstr, ev_gint, ev_bin, ev_neg, ev_cmp, ev_and, ev_or, ev_not, ev_ite, ev_tup, ev_lst, ev_dnew, ev_dnewT, ev_idx, ev_dget, ev_get3, ev_sl0, ev_sl1, ev_sl2, ev_isi, ev_bif, ev_met, ev_xop, ev_call, ev_call0, ev_fcall, ev_callL, ev_lc, ev_lcD, evs_nil, evs_cons, evi_of, evi_rng1, evi_rng2, evi_rng3, evi_zip, evi_enum, ev_chain, run_set, run_setF, run_setG, run_par, run_unp, run_unp3, lst3_k, run_ret, run_retL, run_expr, run_doc, run_rse, run_ite, run_whl, run_loop, run_app, run_ext, run_put, run_kill, run_tryX, catch_r, catch_n, run_frzB, run_fap, run_pop, run_popx, runs_nil, runs_cons, wipe_n, wipe_c, add_i, sub_i, op_mul, op_mod, op_div, idx_l, idx_t, idx_c, lt_i, le_i, gt_i, ge_i, len_l, len_t, len_c, tup_l, tup_t, items_l, items_t, optI_i, sl_t, sl_l, optR_k, optO_k, lcT_t, lcT_f, lcV_k, lcV_e, noX_k, lcF_fun, dkR_k, lstO_k, as_name, as_tup2, isN_0, isN_s, freed_n, freed_r, freed_e, lcM_map, lcM_some, lcM_filt, List.set_cons_zero, List.set_cons_succ, Bool.not_true, Bool.not_false, List.length_cons, List.length_nil, List.length_map, Nat.reduceAdd, isiD, Option.bind_some, Option.map_some, cmp_scr, List.isEmpty_nil, h7]
  · have hp : 0 < ns.length := List.length_pos_iff.mpr he
    have hi : k % ns.length < ns.length := Nat.mod_lt _ hp
    have hm : modD (.int (k : Int)) (.int (ns.length : Int)) = some (.int ((k % ns.length : Nat) : Int)) := by
      rw [mod_ok (by exact_mod_cast hp)]; simp
    have hd : divD (.int (k : Int)) (.int (ns.length : Int)) = some (.int ((k / ns.length : Nat) : Int)) := by
      rw [div_ok (by exact_mod_cast hp) (sm_of (k := 20) (by omega) (by decide))]; simp
    have hq : k / ns.length < 2 ^ 20 := Nat.lt_of_le_of_lt (Nat.div_le_self _ _) hk
    obtain ⟨q, eq⟩ : ∃ q : Nat, q = k / ns.length := ⟨_, rfl⟩
    obtain ⟨r, er⟩ : ∃ r : Nat, r = k % ns.length := ⟨_, rfl⟩
    rw [← eq] at hd hq
    rw [← er] at hm hi
    have h6 : mulD (.int 6553) (.int (q : Int)) = some (.int (6553 * (q : Int))) := mul_ok (sm_of (k := 20) (by decide) (by decide)) (sm_of (k := 20) (by omega) (by decide))
    have ha : atI ns (r : Int) = some ns[r] := atI_nat ns r hi
    have hem : ns.isEmpty = false := by cases ns with | nil => exact absurd rfl he | cons _ _ => rfl
    refine ⟨ns[r] + 6553 * (q : Int), ?_⟩
    simp only [u_law_cell, cd_law_cell, lenG_0, lenG_1, lenG_2, lenG_3, lenG_4, lenG_5, lenG_6, lenG_7, lenG_8, lenG_9, lenG_10, lenG_11, lenG_12, lenG_13, lenG_14, slot_0, slot_s, bind_k, bind_e, ofO_k, resO_k, resO_e, tstO_k, tstO_e, tst_k, tst_e, then_n, then_r, then_e, out_n, out_r, out_e, ifO_t, ifO_f, ifR_t, ifR_f, ev_var, ev_lvar, ev_int, ev_str, ev_bl, ev_non, ev_gstr, ev_gint, ev_bin, ev_neg, ev_cmp, ev_and, ev_or, ev_not, ev_ite, ev_tup, ev_lst, ev_dnew, ev_dnewT, ev_idx, ev_dget, ev_get3, ev_sl0, ev_sl1, ev_sl2, ev_isi, ev_bif, ev_met, ev_xop, ev_call, ev_call0, ev_fcall, ev_callL, ev_lc, ev_lcD, evs_nil, evs_cons, evi_of, evi_rng1, evi_rng2, evi_rng3, evi_zip, evi_enum, ev_chain, run_set, run_setF, run_setG, run_par, run_unp, run_unp3, lst3_k, run_ret, run_retL, run_expr, run_doc, run_rse, run_ite, run_whl, run_loop, run_app, run_ext, run_put, run_kill, run_tryX, catch_r, catch_n, run_frzB, run_fap, run_pop, run_popx, runs_nil, runs_cons, wipe_n, wipe_c, add_i, sub_i, op_mul, op_mod, op_div, idx_l, idx_t, idx_c, lt_i, le_i, gt_i, ge_i, len_l, len_t, len_c, tup_l, tup_t, items_l, items_t, optI_i, sl_t, sl_l, optR_k, optO_k, lcT_t, lcT_f, lcV_k, lcV_e, noX_k, lcF_fun, dkR_k, lstO_k, as_name, as_tup2, isN_0, isN_s, freed_n, freed_r, freed_e, lcM_map, lcM_some, lcM_filt, List.set_cons_zero, List.set_cons_succ, Bool.not_true, Bool.not_false, List.length_cons, List.length_nil, List.length_map, Nat.reduceAdd, isiD, Option.bind_some, Option.map_some, cmp_scr, hem, hm, hd, h6, ha, Option.map_some]
theorem drawn_ex (ns : List Int) (k m : Nat) (hl : ns.length ≤ 63) (hk : k < 2 ^ 20) (hm : 0 < m) : ∃ v : Nat, v < m ∧ f_law_drawn [.scr ns, .int k, .int m] = .ok (.int v) := by
  obtain ⟨c, hc⟩ := e_law_cell ns k hl hk
  have sm32 : ∀ {i : Int}, 0 ≤ i → i < 2147483647 → sm i := fun h1 h2 => sm_of (k := 32) (by omega) (by decide)
  obtain ⟨a, ea⟩ : ∃ a : Int, a = c % 2147483563 := ⟨_, rfl⟩
  have ha : 0 ≤ a ∧ a < 2147483563 := by omega
  obtain ⟨b, eb⟩ : ∃ b : Int, b = (a * 69069 + 104723 * ((k : Int) + 1)) % 2147483563 := ⟨_, rfl⟩
  have hb : 0 ≤ b ∧ b < 2147483563 := by omega
  obtain ⟨d, ed⟩ : ∃ d : Int, d = (b * b + b / 3) % 2147483399 := ⟨_, rfl⟩
  have hd : 0 ≤ d ∧ d < 2147483399 := by omega
  obtain ⟨e, ee⟩ : ∃ e : Int, e = (d * d + d / 7) % 2147483647 := ⟨_, rfl⟩
  have he : 0 ≤ e ∧ e < 2147483647 := by omega
  obtain ⟨f, ef⟩ : ∃ f : Int, f = e / 11 % (m : Int) := ⟨_, rfl⟩
  have hf : 0 ≤ f ∧ f < m := by rw [ef]; exact ⟨Int.emod_nonneg _ (by omega), Int.emod_lt_of_pos _ (by omega)⟩
  obtain ⟨v, rfl⟩ := Int.eq_ofNat_of_zero_le hf.1
  refine ⟨v, by omega, ?_⟩
  have m1 : modD (.int c) (.int 2147483563) = some (.int a) := by rw [mod_ok (by decide), ea]
  have m2 : mulD (.int a) (.int 69069) = some (.int (a * 69069)) := mul_ok (sm32 ha.1 (by omega)) (sm32 (by decide) (by decide))
  have m3 : mulD (.int 104723) (.int ((k : Int) + 1)) = some (.int (104723 * ((k : Int) + 1))) := mul_ok (sm32 (by decide) (by decide)) (sm32 (by omega) (by omega))
  have m4 : modD (.int (a * 69069 + 104723 * ((k : Int) + 1))) (.int 2147483563) = some (.int b) := by rw [mod_ok (by decide), eb]
  have m5 : mulD (.int b) (.int b) = some (.int (b * b)) := mul_ok (sm32 hb.1 (by omega)) (sm32 hb.1 (by omega))
  have m6 : divD (.int b) (.int 3) = some (.int (b / 3)) := div_ok (by decide) (sm32 (by decide) (by decide))
  have m7 : modD (.int (b * b + b / 3)) (.int 2147483399) = some (.int d) := by rw [mod_ok (by decide), ed]
  have m8 : mulD (.int d) (.int d) = some (.int (d * d)) := mul_ok (sm32 hd.1 (by omega)) (sm32 hd.1 (by omega))
  have m9 : divD (.int d) (.int 7) = some (.int (d / 7)) := div_ok (by decide) (sm32 (by decide) (by decide))
  have m10 : modD (.int (d * d + d / 7)) (.int 2147483647) = some (.int e) := by rw [mod_ok (by decide), ee]
  have m11 : divD (.int e) (.int 11) = some (.int (e / 11)) := div_ok (by decide) (sm32 (by decide) (by decide))
  have m12 : modD (.int (e / 11)) (.int (m : Int)) = some (.int (v : Int)) := by rw [mod_ok (by omega), ← ef]
  simp only [u_law_drawn, cd_law_drawn, g0_law_drawn, lenG_0, lenG_1, lenG_2, lenG_3, lenG_4, lenG_5, lenG_6, lenG_7, lenG_8, lenG_9, lenG_10, lenG_11, lenG_12, lenG_13, lenG_14, slot_0, slot_s, bind_k, bind_e, ofO_k, resO_k, resO_e, tstO_k, tstO_e, tst_k, tst_e, then_n, then_r, then_e, out_n, out_r, out_e, ifO_t, ifO_f, ifR_t, ifR_f, ev_var, ev_lvar, ev_int, ev_str, ev_bl, ev_non, ev_gstr, ev_gint, ev_bin, ev_neg, ev_cmp, ev_and, ev_or, ev_not, ev_ite, ev_tup, ev_lst, ev_dnew, ev_dnewT, ev_idx, ev_dget, ev_get3, ev_sl0, ev_sl1, ev_sl2, ev_isi, ev_bif, ev_met, ev_xop, ev_call, ev_call0, ev_fcall, ev_callL, ev_lc, ev_lcD, evs_nil, evs_cons, evi_of, evi_rng1, evi_rng2, evi_rng3, evi_zip, evi_enum, ev_chain, run_set, run_setF, run_setG, run_par, run_unp, run_unp3, lst3_k, run_ret, run_retL, run_expr, run_doc, run_rse, run_ite, run_whl, run_loop, run_app, run_ext, run_put, run_kill, run_tryX, catch_r, catch_n, run_frzB, run_fap, run_pop, run_popx, runs_nil, runs_cons, wipe_n, wipe_c, add_i, sub_i, op_mul, op_mod, op_div, idx_l, idx_t, idx_c, lt_i, le_i, gt_i, ge_i, len_l, len_t, len_c, tup_l, tup_t, items_l, items_t, optI_i, sl_t, sl_l, optR_k, optO_k, lcT_t, lcT_f, lcV_k, lcV_e, noX_k, lcF_fun, dkR_k, lstO_k, as_name, as_tup2, isN_0, isN_s, freed_n, freed_r, freed_e, lcM_map, lcM_some, lcM_filt, List.set_cons_zero, List.set_cons_succ, Bool.not_true, Bool.not_false, List.length_cons, List.length_nil, List.length_map, Nat.reduceAdd, isiD, Option.bind_some, Option.map_some, hc, m1, m2, m3, m4, m5, m6, m7, m8, m9, m10, m11, m12]
noncomputable def dr (ns : List Int) (k m : Int) : Nat := match f_law_drawn [.scr ns, .int k, .int m] with
  | .ok (.int v) => v.toNat
  | _ => 0
theorem dr_all {ns : List Int} (hl : ns.length ≤ 63) {k m : Int} (h0 : 0 ≤ k) (hk : k < 1000000) (hm : 0 < m) : f_law_drawn [.scr ns, .int k, .int m] = .ok (nI (dr ns k m)) ∧ (dr ns k m : Int) < m := by
  obtain ⟨i, rfl⟩ := Int.eq_ofNat_of_zero_le h0
  obtain ⟨n, rfl⟩ := Int.eq_ofNat_of_zero_le (Int.le_of_lt hm)
  obtain ⟨v, h1, h2⟩ := drawn_ex ns i n hl (by omega) (by omega)
  have e : dr ns (i : Int) (n : Int) = v := by unfold dr; rw [h2]; rfl
  rw [e]
  exact ⟨h2, by exact_mod_cast h1⟩
theorem e_dr {ns : List Int} (hl : ns.length ≤ 63) {k m : Int} (h0 : 0 ≤ k) (hk : k < 1000000) (hm : 0 < m) : f_law_drawn [.scr ns, .int k, .int m] = .ok (nI (dr ns k m)) := (dr_all hl h0 hk hm).1
theorem dr_lt {ns : List Int} (hl : ns.length ≤ 63) {k m : Int} (h0 : 0 ≤ k) (hk : k < 1000000) (hm : 0 < m) : (dr ns k m : Int) < m := (dr_all hl h0 hk hm).2
theorem at_abcd {i : Nat} (h : i < 4) : idxD (.str [97, 98, 99, 100]) (nI i) = some (.str [97 + i]) := by
  rw [idx_s _ (by decide)]
  match i, h with
  | 0, _ => rfl
  | 1, _ => rfl
  | 2, _ => rfl
  | 3, _ => rfl
  | i + 4, h => omega
theorem let_at {m i : Nat} (h : i < m) (h4 : m ≤ 4) : 97 + i ∈ lets m := by
  rcases show m = 0 ∨ m = 1 ∨ m = 2 ∨ m = 3 ∨ m = 4 by omega with rfl | rfl | rfl | rfl | rfl
  · omega
  · rcases show i = 0 by omega with rfl; decide
  · rcases show i = 0 ∨ i = 1 by omega with rfl | rfl <;> decide
  · rcases show i = 0 ∨ i = 1 ∨ i = 2 by omega with rfl | rfl | rfl <;> decide
  · rcases show i = 0 ∨ i = 1 ∨ i = 2 ∨ i = 3 by omega with rfl | rfl | rfl | rfl <;> decide
theorem lets_range {m : Nat} (h4 : m ≤ 4) : (List.range m).map (fun i => 97 + i) = lets m := by
  rcases show m = 0 ∨ m = 1 ∨ m = 2 ∨ m = 3 ∨ m = 4 by omega with rfl | rfl | rfl | rfl | rfl <;> rfl
theorem e_law_text {ns : List Int} (hl : ns.length ≤ 63) {a : Int} {m l : Nat} (h0 : 0 ≤ a) (ha : a < 1000) (h1 : 1 ≤ m) (h4 : m ≤ 4) (hb : l < 1000) : ∃ x : T, f_law_text [.scr ns, .int a, nI m, nI l] = .ok (.str x) ∧ x.length ≤ l ∧ VT m x := by
  have d1 := e_dr hl (k := a) (m := (l : Int) + 1) h0 (by omega) (by omega)
  have d2 := dr_lt hl (k := a) (m := (l : Int) + 1) h0 (by omega) (by omega)
  obtain ⟨s, es⟩ : ∃ s, s = dr ns a ((l : Int) + 1) := ⟨_, rfl⟩
  rw [← es] at d1 d2
  have dd : ∀ i ∈ List.range s, dr ns (a + 1 + (i : Int)) (m : Int) < m := fun i hi => by
    have := dr_lt hl (k := a + 1 + (i : Int)) (m := (m : Int)) (by omega) (by have := List.mem_range.mp hi; omega) (by omega)
    omega
  refine ⟨(List.range s).map fun i : Nat => 97 + dr ns (a + 1 + (i : Int)) (m : Int), ?_, by simp; omega, fun c hc => ?_⟩
  · have lc : ∀ i ∈ List.range s, (ev G_law_text C_law_text e0_law_text [some (.scr ns), some (.int a), some (nI m), some (nI l), some (nI s), some (nI i)]) = .ok (.str [97 + dr ns (a + 1 + (i : Int)) (m : Int)]) := fun i hi => by
      have hd := e_dr hl (k := a + 1 + (i : Int)) (m := (m : Int)) (by omega) (by have := List.mem_range.mp hi; omega) (by omega)
      simp only [u_law_text, cd_law_text, g0_law_text, lenG_0, lenG_1, lenG_2, lenG_3, lenG_4, lenG_5, lenG_6, lenG_7, lenG_8, lenG_9, lenG_10, lenG_11, lenG_12, lenG_13, lenG_14, slot_0, slot_s, bind_k, bind_e, ofO_k, resO_k, resO_e, tstO_k, tstO_e, tst_k, tst_e, then_n, then_r, then_e, out_n, out_r, out_e, ifO_t, ifO_f, ifR_t, ifR_f, ev_var, ev_lvar, ev_int, ev_str, ev_bl, ev_non, ev_gstr, ev_gint, ev_bin, ev_neg, ev_cmp, ev_and, ev_or, ev_not, ev_ite, ev_tup, ev_lst, ev_dnew, ev_dnewT, ev_idx, ev_dget, ev_get3, ev_sl0, ev_sl1, ev_sl2, ev_isi, ev_bif, ev_met, ev_xop, ev_call, ev_call0, ev_fcall, ev_callL, ev_lc, ev_lcD, evs_nil, evs_cons, evi_of, evi_rng1, evi_rng2, evi_rng3, evi_zip, evi_enum, ev_chain, run_set, run_setF, run_setG, run_par, run_unp, run_unp3, lst3_k, run_ret, run_retL, run_expr, run_doc, run_rse, run_ite, run_whl, run_loop, run_app, run_ext, run_put, run_kill, run_tryX, catch_r, catch_n, run_frzB, run_fap, run_pop, run_popx, runs_nil, runs_cons, wipe_n, wipe_c, add_i, sub_i, op_mul, op_mod, op_div, idx_l, idx_t, idx_c, lt_i, le_i, gt_i, ge_i, len_l, len_t, len_c, tup_l, tup_t, items_l, items_t, optI_i, sl_t, sl_l, optR_k, optO_k, lcT_t, lcT_f, lcV_k, lcV_e, noX_k, lcF_fun, dkR_k, lstO_k, as_name, as_tup2, isN_0, isN_s, freed_n, freed_r, freed_e, lcM_map, lcM_some, lcM_filt, List.set_cons_zero, List.set_cons_succ, Bool.not_true, Bool.not_false, List.length_cons, List.length_nil, List.length_map, Nat.reduceAdd, isiD, Option.bind_some, Option.map_some, e0_law_text, hd, at_abcd (Nat.lt_of_lt_of_le (dd i hi) h4)]
    have lc2 := lcM_is (F := fun i : Nat => lcV (ev G_law_text C_law_text e0_law_text [some (.scr ns), some (.int a), some (nI m), some (nI l), some (nI s), some (nI i)])) (h := fun i : Nat => D.str [97 + dr ns (a + 1 + (i : Int)) (m : Int)]) (l := List.range s) fun i hi => by rw [lc i hi]; rfl
    have e : (List.range s).map (fun i : Nat => D.str [97 + dr ns (a + 1 + (i : Int)) (m : Int)]) = ((List.range s).map fun i : Nat => [97 + dr ns (a + 1 + (i : Int)) (m : Int)]).map D.str := by rw [List.map_map]; rfl
    rw [e] at lc2
    have hj := join_ls ((List.range s).map fun i : Nat => [97 + dr ns (a + 1 + (i : Int)) (m : Int)]) (by
      rw [List.map_map]
      have : ∀ l : List Nat, (l.map (List.length ∘ fun i : Nat => [97 + dr ns (a + 1 + (i : Int)) (m : Int)])).sum = l.length := by
        intro l
        induction l with
        | nil => rfl
        | cons x l ih => rw [List.map_cons, List.sum_cons, ih]; simp; omega
      rw [this, List.length_range]; omega)
    have fl : ∀ l : List Nat, (l.map fun i : Nat => [97 + dr ns (a + 1 + (i : Int)) (m : Int)]).flatten = l.map fun i : Nat => 97 + dr ns (a + 1 + (i : Int)) (m : Int) := by
      intro l
      induction l with
      | nil => rfl
      | cons x l ih => rw [List.map_cons, List.flatten_cons, ih]; rfl
    rw [fl] at hj
    simp only [u_law_text, cd_law_text, g0_law_text, lenG_0, lenG_1, lenG_2, lenG_3, lenG_4, lenG_5, lenG_6, lenG_7, lenG_8, lenG_9, lenG_10, lenG_11, lenG_12, lenG_13, lenG_14, slot_0, slot_s, bind_k, bind_e, ofO_k, resO_k, resO_e, tstO_k, tstO_e, tst_k, tst_e, then_n, then_r, then_e, out_n, out_r, out_e, ifO_t, ifO_f, ifR_t, ifR_f, ev_var, ev_lvar, ev_int, ev_str, ev_bl, ev_non, ev_gstr, ev_gint, ev_bin, ev_neg, ev_cmp, ev_and, ev_or, ev_not, ev_ite, ev_tup, ev_lst, ev_dnew, ev_dnewT, ev_idx, ev_dget, ev_get3, ev_sl0, ev_sl1, ev_sl2, ev_isi, ev_bif, ev_met, ev_xop, ev_call, ev_call0, ev_fcall, ev_callL, ev_lc, ev_lcD, evs_nil, evs_cons, evi_of, evi_rng1, evi_rng2, evi_rng3, evi_zip, evi_enum, ev_chain, run_set, run_setF, run_setG, run_par, run_unp, run_unp3, lst3_k, run_ret, run_retL, run_expr, run_doc, run_rse, run_ite, run_whl, run_loop, run_app, run_ext, run_put, run_kill, run_tryX, catch_r, catch_n, run_frzB, run_fap, run_pop, run_popx, runs_nil, runs_cons, wipe_n, wipe_c, add_i, sub_i, op_mul, op_mod, op_div, idx_l, idx_t, idx_c, lt_i, le_i, gt_i, ge_i, len_l, len_t, len_c, tup_l, tup_t, items_l, items_t, optI_i, sl_t, sl_l, optR_k, optO_k, lcT_t, lcT_f, lcV_k, lcV_e, noX_k, lcF_fun, dkR_k, lstO_k, as_name, as_tup2, isN_0, isN_s, freed_n, freed_r, freed_e, lcM_map, lcM_some, lcM_filt, List.set_cons_zero, List.set_cons_succ, Bool.not_true, Bool.not_false, List.length_cons, List.length_nil, List.length_map, Nat.reduceAdd, isiD, Option.bind_some, Option.map_some, d1, rng1_nat s (by omega), List.length_range, lenG_ok (show s ≤ 100000 by omega), ev_cT, lc2, show recvOk .join (.str []) = true from rfl, hj]
  · obtain ⟨i, hi, rfl⟩ := List.mem_map.mp hc
    exact let_at (dd i hi) h4
theorem erase_part {m : Nat} {b : List T} (B : BK m b) {i : Nat} (h : i < b.length) : isort (b.eraseIdx i ++ kids m b[i]) = part m b b[i] := by
  have hp : b[i] ∈ b := List.getElem_mem h
  have e : b.filter (fun x => x ≠ b[i]) = b.eraseIdx i := by
    have h1 := B.srt.nodup.erase_eq_filter b[i]
    have h2 : b.erase b[i] = b.eraseIdx i := by
      have h3 : b.idxOf b[i] = i := B.srt.nodup.idxOf_getElem i h
      rw [List.erase_eq_eraseIdx_of_idxOf (i := i) h3]
    rw [← h2, h1]
    congr 1
    funext x
    by_cases z : x = b[i] <;> simp [z]
  unfold part
  rw [e]
theorem first_range {m : Nat} (h4 : m ≤ 4) : (List.range m).map (fun i : Nat => D.str [97 + i]) = (first m).map D.str := by
  unfold first
  rw [← lets_range h4, List.map_map, List.map_map]; rfl
theorem e_law_book {ns : List Int} (hl : ns.length ≤ 63) {a : Int} {m t : Nat} (h0 : 0 ≤ a) (ha : a < 1000) (h2 : 2 ≤ m) (h4 : m ≤ 4) (ht : t ≤ 20) : ∃ b : List T, f_law_book [.scr ns, .int a, nI m, nI t] = .ok (bkD b) ∧ BK m b ∧ b.length = m + t * (m - 1) := by
  have hs : ∀ (i : Nat) (d : D) (ρ : PLq.Env), ((List.range t).map fun i : Nat => nI i)[i]? = some d →
      (∃ b, BK m b ∧ b.length = m + (0 + i) * (m - 1) ∧ ρ = [some (.scr ns), some (.int a), some (nI m), some (nI t), some (lsD b), none, none, none]) →
      ∃ ρ1 ρ2, assignTg (.name 5) d ρ = some ρ1 ∧ runs G_law_book C_law_book b2_law_book ρ1 = .nx ρ2 ∧
        ∃ b, BK m b ∧ b.length = m + (0 + i + 1) * (m - 1) ∧ ρ2 = [some (.scr ns), some (.int a), some (nI m), some (nI t), some (lsD b), none, none, none] := by
    rintro i d ρ hd ⟨b, B, hb, rfl⟩
    rw [List.getElem?_map] at hd
    have hi : i < t := by
      by_cases q : i < t
      · exact q
      · rw [List.getElem?_eq_none (by simp; omega)] at hd; cases hd
    rw [List.getElem?_eq_getElem (by simp; omega), List.getElem_range] at hd
    cases hd
    rw [Nat.zero_add] at hb
    have hlen : 0 < b.length := List.length_pos_iff.mpr B.ne_nil
    have hmul : i * (m - 1) ≤ 20 * 3 := Nat.mul_le_mul (by omega) (by omega)
    have d1 := e_dr hl (k := a + (i : Int)) (m := (b.length : Int)) (by omega) (by omega) (by omega)
    have d2 := dr_lt hl (k := a + (i : Int)) (m := (b.length : Int)) (by omega) (by omega) (by omega)
    obtain ⟨j, ej⟩ : ∃ j, j = dr ns (a + (i : Int)) (b.length : Int) := ⟨_, rfl⟩
    rw [← ej] at d1 d2
    have hj : j < b.length := by omega
    have hp : b[j] ∈ b := List.getElem_mem hj
    have hpl := B.len_lt _ hp
    have okb := bk_ok B
    have okp := okb _ hp
    have ke : kids m b[j] = (List.range m).map fun x => b[j] ++ [97 + x] := by
      unfold kids
      rw [← lets_range h4, List.map_map]; rfl
    have lc2 := lcM_is (F := fun x : Nat => lcV (ev G_law_book C_law_book e1_law_book [some (.scr ns), some (.int a), some (nI m), some (nI t), some (lsD (b.eraseIdx j)), some (nI i), some (.str b[j]), some (nI x)])) (h := fun x : Nat => D.str (b[j] ++ [97 + x])) (l := List.range m) fun x hx => by
      have hx := List.mem_range.mp hx
      simp only [u_law_book, cd_law_book, g0_law_book, lenG_0, lenG_1, lenG_2, lenG_3, lenG_4, lenG_5, lenG_6, lenG_7, lenG_8, lenG_9, lenG_10, lenG_11, lenG_12, lenG_13, lenG_14, slot_0, slot_s, bind_k, bind_e, ofO_k, resO_k, resO_e, tstO_k, tstO_e, tst_k, tst_e, then_n, then_r, then_e, out_n, out_r, out_e, ifO_t, ifO_f, ifR_t, ifR_f, ev_var, ev_lvar, ev_int, ev_str, ev_bl, ev_non, ev_gstr, ev_gint, ev_bin, ev_neg, ev_cmp, ev_and, ev_or, ev_not, ev_ite, ev_tup, ev_lst, ev_dnew, ev_dnewT, ev_idx, ev_dget, ev_get3, ev_sl0, ev_sl1, ev_sl2, ev_isi, ev_bif, ev_met, ev_xop, ev_call, ev_call0, ev_fcall, ev_callL, ev_lc, ev_lcD, evs_nil, evs_cons, evi_of, evi_rng1, evi_rng2, evi_rng3, evi_zip, evi_enum, ev_chain, run_set, run_setF, run_setG, run_par, run_unp, run_unp3, lst3_k, run_ret, run_retL, run_expr, run_doc, run_rse, run_ite, run_whl, run_loop, run_app, run_ext, run_put, run_kill, run_tryX, catch_r, catch_n, run_frzB, run_fap, run_pop, run_popx, runs_nil, runs_cons, wipe_n, wipe_c, add_i, sub_i, op_mul, op_mod, op_div, idx_l, idx_t, idx_c, lt_i, le_i, gt_i, ge_i, len_l, len_t, len_c, tup_l, tup_t, items_l, items_t, optI_i, sl_t, sl_l, optR_k, optO_k, lcT_t, lcT_f, lcV_k, lcV_e, noX_k, lcF_fun, dkR_k, lstO_k, as_name, as_tup2, isN_0, isN_s, freed_n, freed_r, freed_e, lcM_map, lcM_some, lcM_filt, List.set_cons_zero, List.set_cons_succ, Bool.not_true, Bool.not_false, List.length_cons, List.length_nil, List.length_map, Nat.reduceAdd, isiD, Option.bind_some, Option.map_some, e1_law_book, at_abcd (show x < 4 by omega), add_s (show b[j].length + [97 + x].length ≤ 100000 by simp; omega)]
    have ed : (List.range m).map (fun x : Nat => D.str (b[j] ++ [97 + x])) = (kids m b[j]).map D.str := by rw [ke, List.map_map]; rfl
    rw [ed] at lc2
    have okk : OkB (kids m b[j]) := fun x hx => by
      obtain ⟨c, hc, rfl⟩ := kids_mem.mp hx
      exact okT_app.mpr ⟨okp, vt_ok (VT.one hc)⟩
    have oke : OkB (b.eraseIdx j) := fun x hx => okb x (List.mem_of_mem_eraseIdx hx)
    have le1 : (b.eraseIdx j).length ≤ 1000 := by rw [List.length_eraseIdx]; split <;> omega
    have lk : (kids m b[j]).length ≤ 4 := by rw [ke]; simp; omega
    have so := srt_ls (okB_app.mpr ⟨oke, okk⟩) (by rw [List.length_append]; omega)
    rw [erase_part B hj] at so
    have ad := add_ls (a := b.eraseIdx j) (b := kids m b[j]) (by omega)
    have po := pop_ls hj (by omega)
    refine ⟨_, _, rfl, ?_, part m b b[j], B.part hp, ?_, rfl⟩
    · simp only [u_law_book, cd_law_book, g0_law_book, lenG_0, lenG_1, lenG_2, lenG_3, lenG_4, lenG_5, lenG_6, lenG_7, lenG_8, lenG_9, lenG_10, lenG_11, lenG_12, lenG_13, lenG_14, slot_0, slot_s, bind_k, bind_e, ofO_k, resO_k, resO_e, tstO_k, tstO_e, tst_k, tst_e, then_n, then_r, then_e, out_n, out_r, out_e, ifO_t, ifO_f, ifR_t, ifR_f, ev_var, ev_lvar, ev_int, ev_str, ev_bl, ev_non, ev_gstr, ev_gint, ev_bin, ev_neg, ev_cmp, ev_and, ev_or, ev_not, ev_ite, ev_tup, ev_lst, ev_dnew, ev_dnewT, ev_idx, ev_dget, ev_get3, ev_sl0, ev_sl1, ev_sl2, ev_isi, ev_bif, ev_met, ev_xop, ev_call, ev_call0, ev_fcall, ev_callL, ev_lc, ev_lcD, evs_nil, evs_cons, evi_of, evi_rng1, evi_rng2, evi_rng3, evi_zip, evi_enum, ev_chain, run_set, run_setF, run_setG, run_par, run_unp, run_unp3, lst3_k, run_ret, run_retL, run_expr, run_doc, run_rse, run_ite, run_whl, run_loop, run_app, run_ext, run_put, run_kill, run_tryX, catch_r, catch_n, run_frzB, run_fap, run_pop, run_popx, runs_nil, runs_cons, wipe_n, wipe_c, add_i, sub_i, op_mul, op_mod, op_div, idx_l, idx_t, idx_c, lt_i, le_i, gt_i, ge_i, len_l, len_t, len_c, tup_l, tup_t, items_l, items_t, optI_i, sl_t, sl_l, optR_k, optO_k, lcT_t, lcT_f, lcV_k, lcV_e, noX_k, lcF_fun, dkR_k, lstO_k, as_name, as_tup2, isN_0, isN_s, freed_n, freed_r, freed_e, lcM_map, lcM_some, lcM_filt, List.set_cons_zero, List.set_cons_succ, Bool.not_true, Bool.not_false, List.length_cons, List.length_nil, List.length_map, Nat.reduceAdd, isiD, Option.bind_some, Option.map_some, b2_law_book, d1, po, rng1_nat m (show m < 2 ^ 40 by omega), List.length_range, lenG_ok (show m ≤ 100000 by omega), ev_cT, lc2, ad, so]
    · have := B.part_len hp
      rw [show (0 + i + 1) * (m - 1) = i * (m - 1) + (m - 1) by rw [Nat.zero_add, Nat.add_mul, Nat.one_mul]]
      omega
  obtain ⟨ρ, h1, b, B, hb, rfl⟩ := for_go ((List.range t).map fun i : Nat => nI i) (fun i ρ => ∃ b, BK m b ∧ b.length = m + i * (m - 1) ∧ ρ = [some (.scr ns), some (.int a), some (nI m), some (nI t), some (lsD b), none, none, none]) (ρ := [some (.scr ns), some (.int a), some (nI m), some (nI t), some (lsD (first m)), none, none, none]) 0 ⟨first m, first_bk h2 h4, by rw [first_len h4]; simp, rfl⟩ hs
  refine ⟨b, ?_, B, by simpa using hb⟩
  have lc2 := lcM_is (F := fun x : Nat => lcV (ev G_law_book C_law_book e0_law_book [some (.scr ns), some (.int a), some (nI m), some (nI t), none, some (nI x), none, none])) (h := fun x : Nat => D.str [97 + x]) (l := List.range m) fun x hx => by
    have hx := List.mem_range.mp hx
    simp only [u_law_book, cd_law_book, g0_law_book, lenG_0, lenG_1, lenG_2, lenG_3, lenG_4, lenG_5, lenG_6, lenG_7, lenG_8, lenG_9, lenG_10, lenG_11, lenG_12, lenG_13, lenG_14, slot_0, slot_s, bind_k, bind_e, ofO_k, resO_k, resO_e, tstO_k, tstO_e, tst_k, tst_e, then_n, then_r, then_e, out_n, out_r, out_e, ifO_t, ifO_f, ifR_t, ifR_f, ev_var, ev_lvar, ev_int, ev_str, ev_bl, ev_non, ev_gstr, ev_gint, ev_bin, ev_neg, ev_cmp, ev_and, ev_or, ev_not, ev_ite, ev_tup, ev_lst, ev_dnew, ev_dnewT, ev_idx, ev_dget, ev_get3, ev_sl0, ev_sl1, ev_sl2, ev_isi, ev_bif, ev_met, ev_xop, ev_call, ev_call0, ev_fcall, ev_callL, ev_lc, ev_lcD, evs_nil, evs_cons, evi_of, evi_rng1, evi_rng2, evi_rng3, evi_zip, evi_enum, ev_chain, run_set, run_setF, run_setG, run_par, run_unp, run_unp3, lst3_k, run_ret, run_retL, run_expr, run_doc, run_rse, run_ite, run_whl, run_loop, run_app, run_ext, run_put, run_kill, run_tryX, catch_r, catch_n, run_frzB, run_fap, run_pop, run_popx, runs_nil, runs_cons, wipe_n, wipe_c, add_i, sub_i, op_mul, op_mod, op_div, idx_l, idx_t, idx_c, lt_i, le_i, gt_i, ge_i, len_l, len_t, len_c, tup_l, tup_t, items_l, items_t, optI_i, sl_t, sl_l, optR_k, optO_k, lcT_t, lcT_f, lcV_k, lcV_e, noX_k, lcF_fun, dkR_k, lstO_k, as_name, as_tup2, isN_0, isN_s, freed_n, freed_r, freed_e, lcM_map, lcM_some, lcM_filt, List.set_cons_zero, List.set_cons_succ, Bool.not_true, Bool.not_false, List.length_cons, List.length_nil, List.length_map, Nat.reduceAdd, isiD, Option.bind_some, Option.map_some, e0_law_book, at_abcd (show x < 4 by omega)]
  rw [first_range h4] at lc2
  simp only [u_law_book, cd_law_book, g0_law_book, lenG_0, lenG_1, lenG_2, lenG_3, lenG_4, lenG_5, lenG_6, lenG_7, lenG_8, lenG_9, lenG_10, lenG_11, lenG_12, lenG_13, lenG_14, slot_0, slot_s, bind_k, bind_e, ofO_k, resO_k, resO_e, tstO_k, tstO_e, tst_k, tst_e, then_n, then_r, then_e, out_n, out_r, out_e, ifO_t, ifO_f, ifR_t, ifR_f, ev_var, ev_lvar, ev_int, ev_str, ev_bl, ev_non, ev_gstr, ev_gint, ev_bin, ev_neg, ev_cmp, ev_and, ev_or, ev_not, ev_ite, ev_tup, ev_lst, ev_dnew, ev_dnewT, ev_idx, ev_dget, ev_get3, ev_sl0, ev_sl1, ev_sl2, ev_isi, ev_bif, ev_met, ev_xop, ev_call, ev_call0, ev_fcall, ev_callL, ev_lc, ev_lcD, evs_nil, evs_cons, evi_of, evi_rng1, evi_rng2, evi_rng3, evi_zip, evi_enum, ev_chain, run_set, run_setF, run_setG, run_par, run_unp, run_unp3, lst3_k, run_ret, run_retL, run_expr, run_doc, run_rse, run_ite, run_whl, run_loop, run_app, run_ext, run_put, run_kill, run_tryX, catch_r, catch_n, run_frzB, run_fap, run_pop, run_popx, runs_nil, runs_cons, wipe_n, wipe_c, add_i, sub_i, op_mul, op_mod, op_div, idx_l, idx_t, idx_c, lt_i, le_i, gt_i, ge_i, len_l, len_t, len_c, tup_l, tup_t, items_l, items_t, optI_i, sl_t, sl_l, optR_k, optO_k, lcT_t, lcT_f, lcV_k, lcV_e, noX_k, lcF_fun, dkR_k, lstO_k, as_name, as_tup2, isN_0, isN_s, freed_n, freed_r, freed_e, lcM_map, lcM_some, lcM_filt, List.set_cons_zero, List.set_cons_succ, Bool.not_true, Bool.not_false, List.length_cons, List.length_nil, List.length_map, Nat.reduceAdd, isiD, Option.bind_some, Option.map_some, rng1_nat m (show m < 2 ^ 40 by omega), rng1_nat t (show t < 2 ^ 40 by omega), List.length_range, lenG_ok (show m ≤ 100000 by omega), ev_cT, lc2, h1]
end Pb
namespace Pb
open PySem PLq Bk
open L2 (atI ixN)
def isNum (d : D) (lo hi : Int) : Bool := match d with
  | .int i => decide (lo ≤ i) && decide (i ≤ hi)
  | _ => false
theorem e_is_number (d : D) (lo hi : Int) : f_is_number [d, .int lo, .int hi] = .ok (.bl (isNum d lo hi)) := by
  cases d with
  | int i => by_cases h : lo ≤ i <;> simp only [u_is_number, cd_is_number, lenG_0, lenG_1, lenG_2, lenG_3, lenG_4, lenG_5, lenG_6, lenG_7, lenG_8, lenG_9, lenG_10, lenG_11, lenG_12, lenG_13, lenG_14, slot_0, slot_s, bind_k, bind_e, ofO_k, resO_k, resO_e, tstO_k, tstO_e, tst_k, tst_e, then_n, then_r, then_e, out_n, out_r, out_e, ifO_t, ifO_f, ifR_t, ifR_f, ev_var, ev_lvar, ev_int, ev_str, ev_bl, ev_non, ev_gstr, ev_gint, ev_bin, ev_neg, ev_cmp, ev_and, ev_or, ev_not, ev_ite, ev_tup, ev_lst, ev_dnew, ev_dnewT, ev_idx, ev_dget, ev_get3, ev_sl0, ev_sl1, ev_sl2, ev_isi, ev_bif, ev_met, ev_xop, ev_call, ev_call0, ev_fcall, ev_callL, ev_lc, ev_lcD, evs_nil, evs_cons, evi_of, evi_rng1, evi_rng2, evi_rng3, evi_zip, evi_enum, ev_chain, run_set, run_setF, run_setG, run_par, run_unp, run_unp3, lst3_k, run_ret, run_retL, run_expr, run_doc, run_rse, run_ite, run_whl, run_loop, run_app, run_ext, run_put, run_kill, run_tryX, catch_r, catch_n, run_frzB, run_fap, run_pop, run_popx, runs_nil, runs_cons, wipe_n, wipe_c, add_i, sub_i, op_mul, op_mod, op_div, idx_l, idx_t, idx_c, lt_i, le_i, gt_i, ge_i, len_l, len_t, len_c, tup_l, tup_t, items_l, items_t, optI_i, sl_t, sl_l, optR_k, optO_k, lcT_t, lcT_f, lcV_k, lcV_e, noX_k, lcF_fun, dkR_k, lstO_k, as_name, as_tup2, isN_0, isN_s, freed_n, freed_r, freed_e, lcM_map, lcM_some, lcM_filt, List.set_cons_zero, List.set_cons_succ, Bool.not_true, Bool.not_false, List.length_cons, List.length_nil, List.length_map, Nat.reduceAdd, isiD, Option.bind_some, Option.map_some, isNum, h, decide_true, decide_false, Bool.true_and, Bool.false_and]
  | _ => simp only [u_is_number, cd_is_number, lenG_0, lenG_1, lenG_2, lenG_3, lenG_4, lenG_5, lenG_6, lenG_7, lenG_8, lenG_9, lenG_10, lenG_11, lenG_12, lenG_13, lenG_14, slot_0, slot_s, bind_k, bind_e, ofO_k, resO_k, resO_e, tstO_k, tstO_e, tst_k, tst_e, then_n, then_r, then_e, out_n, out_r, out_e, ifO_t, ifO_f, ifR_t, ifR_f, ev_var, ev_lvar, ev_int, ev_str, ev_bl, ev_non, ev_gstr, ev_gint, ev_bin, ev_neg, ev_cmp, ev_and, ev_or, ev_not, ev_ite, ev_tup, ev_lst, ev_dnew, ev_dnewT, ev_idx, ev_dget, ev_get3, ev_sl0, ev_sl1, ev_sl2, ev_isi, ev_bif, ev_met, ev_xop, ev_call, ev_call0, ev_fcall, ev_callL, ev_lc, ev_lcD, evs_nil, evs_cons, evi_of, evi_rng1, evi_rng2, evi_rng3, evi_zip, evi_enum, ev_chain, run_set, run_setF, run_setG, run_par, run_unp, run_unp3, lst3_k, run_ret, run_retL, run_expr, run_doc, run_rse, run_ite, run_whl, run_loop, run_app, run_ext, run_put, run_kill, run_tryX, catch_r, catch_n, run_frzB, run_fap, run_pop, run_popx, runs_nil, runs_cons, wipe_n, wipe_c, add_i, sub_i, op_mul, op_mod, op_div, idx_l, idx_t, idx_c, lt_i, le_i, gt_i, ge_i, len_l, len_t, len_c, tup_l, tup_t, items_l, items_t, optI_i, sl_t, sl_l, optR_k, optO_k, lcT_t, lcT_f, lcV_k, lcV_e, noX_k, lcF_fun, dkR_k, lstO_k, as_name, as_tup2, isN_0, isN_s, freed_n, freed_r, freed_e, lcM_map, lcM_some, lcM_filt, List.set_cons_zero, List.set_cons_succ, Bool.not_true, Bool.not_false, List.length_cons, List.length_nil, List.length_map, Nat.reduceAdd, isiD, Option.bind_some, Option.map_some, isNum]
def sq (n : Nat) : Prop := n < 2 ^ 2000
theorem sq.sm {n : Nat} (h : sq n) : sm (n : Int) := sm_of (k := 2000) (by rw [Int.natAbs_natCast]; exact h) (by decide)
structure SR (q : Rat) : Prop where
  lo : 0 ≤ q
  num : sq q.num.toNat
  den : sq q.den
theorem SR.eq {q : Rat} (h : SR q) : frD q = .tup [nI q.num.toNat, nI q.den] := by
  unfold frD
  have : ((q.num.toNat : Nat) : Int) = q.num := Int.toNat_of_nonneg (Rat.num_nonneg.mpr h.lo)
  show _ = D.tup [.int ((q.num.toNat : Nat) : Int), _]
  rw [this]
theorem SR.val {q : Rat} (h : SR q) : q = (q.num.toNat : Rat) / (q.den : Rat) := by
  have : ((q.num.toNat : Nat) : Int) = q.num := Int.toNat_of_nonneg (Rat.num_nonneg.mpr h.lo)
  have e2 : ((q.num.toNat : Nat) : Rat) = ((q.num : Int) : Rat) := by rw [← this]; rfl
  rw [e2, ← Rat.mkRat_eq_div, Rat.mkRat_self]
theorem e_letters_of {m : Nat} (h : m ≤ 4) : f_letters_of [nI m] = .ok (.str (lets m)) := by
  have e : cutL [97, 98, 99, 100] none (some (m : Int)) = lets m := by
    rcases show m = 0 ∨ m = 1 ∨ m = 2 ∨ m = 3 ∨ m = 4 by omega with rfl | rfl | rfl | rfl | rfl <;> rfl
  simp only [u_letters_of, cd_letters_of, k0_letters_of, lenG_0, lenG_1, lenG_2, lenG_3, lenG_4, lenG_5, lenG_6, lenG_7, lenG_8, lenG_9, lenG_10, lenG_11, lenG_12, lenG_13, lenG_14, slot_0, slot_s, bind_k, bind_e, ofO_k, resO_k, resO_e, tstO_k, tstO_e, tst_k, tst_e, then_n, then_r, then_e, out_n, out_r, out_e, ifO_t, ifO_f, ifR_t, ifR_f, ev_var, ev_lvar, ev_int, ev_str, ev_bl, ev_non, ev_gstr, ev_gint, ev_bin, ev_neg, ev_cmp, ev_and, ev_or, ev_not, ev_ite, ev_tup, ev_lst, ev_dnew, ev_dnewT, ev_idx, ev_dget, ev_get3, ev_sl0, ev_sl1, ev_sl2, ev_isi, ev_bif, ev_met, ev_xop, ev_call, ev_call0, ev_fcall, ev_callL, ev_lc, ev_lcD, evs_nil, evs_cons, evi_of, evi_rng1, evi_rng2, evi_rng3, evi_zip, evi_enum, ev_chain, run_set, run_setF, run_setG, run_par, run_unp, run_unp3, lst3_k, run_ret, run_retL, run_expr, run_doc, run_rse, run_ite, run_whl, run_loop, run_app, run_ext, run_put, run_kill, run_tryX, catch_r, catch_n, run_frzB, run_fap, run_pop, run_popx, runs_nil, runs_cons, wipe_n, wipe_c, add_i, sub_i, op_mul, op_mod, op_div, idx_l, idx_t, idx_c, lt_i, le_i, gt_i, ge_i, len_l, len_t, len_c, tup_l, tup_t, items_l, items_t, optI_i, sl_t, sl_l, optR_k, optO_k, lcT_t, lcT_f, lcV_k, lcV_e, noX_k, lcF_fun, dkR_k, lstO_k, as_name, as_tup2, isN_0, isN_s, freed_n, freed_r, freed_e, lcM_map, lcM_some, lcM_filt, List.set_cons_zero, List.set_cons_succ, Bool.not_true, Bool.not_false, List.length_cons, List.length_nil, List.length_map, Nat.reduceAdd, isiD, Option.bind_some, Option.map_some, sl_s (x := [97, 98, 99, 100]) _ _ (by decide), e]
def isTxt (m : Nat) : D → Bool
  | .str x => x.all fun c => decide (c ∈ lets m)
  | _ => false
def small : D → Prop
  | .str x => x.length ≤ 100000
  | _ => True
theorem e_is_text {m : Nat} (hm : m ≤ 4) (d : D) (hd : small d) : f_is_text [nI m, d] = .ok (.bl (isTxt m d)) := by
  cases d with
  | str x =>
    have hd : x.length ≤ 100000 := hd
    simp only [u_is_text, cd_is_text, g0_is_text, lenG_0, lenG_1, lenG_2, lenG_3, lenG_4, lenG_5, lenG_6, lenG_7, lenG_8, lenG_9, lenG_10, lenG_11, lenG_12, lenG_13, lenG_14, slot_0, slot_s, bind_k, bind_e, ofO_k, resO_k, resO_e, tstO_k, tstO_e, tst_k, tst_e, then_n, then_r, then_e, out_n, out_r, out_e, ifO_t, ifO_f, ifR_t, ifR_f, ev_var, ev_lvar, ev_int, ev_str, ev_bl, ev_non, ev_gstr, ev_gint, ev_bin, ev_neg, ev_cmp, ev_and, ev_or, ev_not, ev_ite, ev_tup, ev_lst, ev_dnew, ev_dnewT, ev_idx, ev_dget, ev_get3, ev_sl0, ev_sl1, ev_sl2, ev_isi, ev_bif, ev_met, ev_xop, ev_call, ev_call0, ev_fcall, ev_callL, ev_lc, ev_lcD, evs_nil, evs_cons, evi_of, evi_rng1, evi_rng2, evi_rng3, evi_zip, evi_enum, ev_chain, run_set, run_setF, run_setG, run_par, run_unp, run_unp3, lst3_k, run_ret, run_retL, run_expr, run_doc, run_rse, run_ite, run_whl, run_loop, run_app, run_ext, run_put, run_kill, run_tryX, catch_r, catch_n, run_frzB, run_fap, run_pop, run_popx, runs_nil, runs_cons, wipe_n, wipe_c, add_i, sub_i, op_mul, op_mod, op_div, idx_l, idx_t, idx_c, lt_i, le_i, gt_i, ge_i, len_l, len_t, len_c, tup_l, tup_t, items_l, items_t, optI_i, sl_t, sl_l, optR_k, optO_k, lcT_t, lcT_f, lcV_k, lcV_e, noX_k, lcF_fun, dkR_k, lstO_k, as_name, as_tup2, isN_0, isN_s, freed_n, freed_r, freed_e, lcM_map, lcM_some, lcM_filt, List.set_cons_zero, List.set_cons_succ, Bool.not_true, Bool.not_false, List.length_cons, List.length_nil, List.length_map, Nat.reduceAdd, isiD, Option.bind_some, Option.map_some, e0_is_text, e_letters_of hm, in_str, items_s hd, lenG_ok hd, ev_cT, all_bl, isTxt]
  | _ => simp only [u_is_text, cd_is_text, g0_is_text, lenG_0, lenG_1, lenG_2, lenG_3, lenG_4, lenG_5, lenG_6, lenG_7, lenG_8, lenG_9, lenG_10, lenG_11, lenG_12, lenG_13, lenG_14, slot_0, slot_s, bind_k, bind_e, ofO_k, resO_k, resO_e, tstO_k, tstO_e, tst_k, tst_e, then_n, then_r, then_e, out_n, out_r, out_e, ifO_t, ifO_f, ifR_t, ifR_f, ev_var, ev_lvar, ev_int, ev_str, ev_bl, ev_non, ev_gstr, ev_gint, ev_bin, ev_neg, ev_cmp, ev_and, ev_or, ev_not, ev_ite, ev_tup, ev_lst, ev_dnew, ev_dnewT, ev_idx, ev_dget, ev_get3, ev_sl0, ev_sl1, ev_sl2, ev_isi, ev_bif, ev_met, ev_xop, ev_call, ev_call0, ev_fcall, ev_callL, ev_lc, ev_lcD, evs_nil, evs_cons, evi_of, evi_rng1, evi_rng2, evi_rng3, evi_zip, evi_enum, ev_chain, run_set, run_setF, run_setG, run_par, run_unp, run_unp3, lst3_k, run_ret, run_retL, run_expr, run_doc, run_rse, run_ite, run_whl, run_loop, run_app, run_ext, run_put, run_kill, run_tryX, catch_r, catch_n, run_frzB, run_fap, run_pop, run_popx, runs_nil, runs_cons, wipe_n, wipe_c, add_i, sub_i, op_mul, op_mod, op_div, idx_l, idx_t, idx_c, lt_i, le_i, gt_i, ge_i, len_l, len_t, len_c, tup_l, tup_t, items_l, items_t, optI_i, sl_t, sl_l, optR_k, optO_k, lcT_t, lcT_f, lcV_k, lcV_e, noX_k, lcF_fun, dkR_k, lstO_k, as_name, as_tup2, isN_0, isN_s, freed_n, freed_r, freed_e, lcM_map, lcM_some, lcM_filt, List.set_cons_zero, List.set_cons_succ, Bool.not_true, Bool.not_false, List.length_cons, List.length_nil, List.length_map, Nat.reduceAdd, isiD, Option.bind_some, Option.map_some, isTxt]
theorem e_need_text {m : Nat} (hm : m ≤ 4) (d : D) (hd : small d) : f_need_text [nI m, d] = if isTxt m d then .ok .non else .exc .letters := by
  cases h : isTxt m d with
  | true => simp only [u_need_text, cd_need_text, g0_need_text, lenG_0, lenG_1, lenG_2, lenG_3, lenG_4, lenG_5, lenG_6, lenG_7, lenG_8, lenG_9, lenG_10, lenG_11, lenG_12, lenG_13, lenG_14, slot_0, slot_s, bind_k, bind_e, ofO_k, resO_k, resO_e, tstO_k, tstO_e, tst_k, tst_e, then_n, then_r, then_e, out_n, out_r, out_e, ifO_t, ifO_f, ifR_t, ifR_f, ev_var, ev_lvar, ev_int, ev_str, ev_bl, ev_non, ev_gstr, ev_gint, ev_bin, ev_neg, ev_cmp, ev_and, ev_or, ev_not, ev_ite, ev_tup, ev_lst, ev_dnew, ev_dnewT, ev_idx, ev_dget, ev_get3, ev_sl0, ev_sl1, ev_sl2, ev_isi, ev_bif, ev_met, ev_xop, ev_call, ev_call0, ev_fcall, ev_callL, ev_lc, ev_lcD, evs_nil, evs_cons, evi_of, evi_rng1, evi_rng2, evi_rng3, evi_zip, evi_enum, ev_chain, run_set, run_setF, run_setG, run_par, run_unp, run_unp3, lst3_k, run_ret, run_retL, run_expr, run_doc, run_rse, run_ite, run_whl, run_loop, run_app, run_ext, run_put, run_kill, run_tryX, catch_r, catch_n, run_frzB, run_fap, run_pop, run_popx, runs_nil, runs_cons, wipe_n, wipe_c, add_i, sub_i, op_mul, op_mod, op_div, idx_l, idx_t, idx_c, lt_i, le_i, gt_i, ge_i, len_l, len_t, len_c, tup_l, tup_t, items_l, items_t, optI_i, sl_t, sl_l, optR_k, optO_k, lcT_t, lcT_f, lcV_k, lcV_e, noX_k, lcF_fun, dkR_k, lstO_k, as_name, as_tup2, isN_0, isN_s, freed_n, freed_r, freed_e, lcM_map, lcM_some, lcM_filt, List.set_cons_zero, List.set_cons_succ, Bool.not_true, Bool.not_false, List.length_cons, List.length_nil, List.length_map, Nat.reduceAdd, isiD, Option.bind_some, Option.map_some, e_is_text hm d hd, h, if_true]
  | false => simp only [u_need_text, cd_need_text, g0_need_text, lenG_0, lenG_1, lenG_2, lenG_3, lenG_4, lenG_5, lenG_6, lenG_7, lenG_8, lenG_9, lenG_10, lenG_11, lenG_12, lenG_13, lenG_14, slot_0, slot_s, bind_k, bind_e, ofO_k, resO_k, resO_e, tstO_k, tstO_e, tst_k, tst_e, then_n, then_r, then_e, out_n, out_r, out_e, ifO_t, ifO_f, ifR_t, ifR_f, ev_var, ev_lvar, ev_int, ev_str, ev_bl, ev_non, ev_gstr, ev_gint, ev_bin, ev_neg, ev_cmp, ev_and, ev_or, ev_not, ev_ite, ev_tup, ev_lst, ev_dnew, ev_dnewT, ev_idx, ev_dget, ev_get3, ev_sl0, ev_sl1, ev_sl2, ev_isi, ev_bif, ev_met, ev_xop, ev_call, ev_call0, ev_fcall, ev_callL, ev_lc, ev_lcD, evs_nil, evs_cons, evi_of, evi_rng1, evi_rng2, evi_rng3, evi_zip, evi_enum, ev_chain, run_set, run_setF, run_setG, run_par, run_unp, run_unp3, lst3_k, run_ret, run_retL, run_expr, run_doc, run_rse, run_ite, run_whl, run_loop, run_app, run_ext, run_put, run_kill, run_tryX, catch_r, catch_n, run_frzB, run_fap, run_pop, run_popx, runs_nil, runs_cons, wipe_n, wipe_c, add_i, sub_i, op_mul, op_mod, op_div, idx_l, idx_t, idx_c, lt_i, le_i, gt_i, ge_i, len_l, len_t, len_c, tup_l, tup_t, items_l, items_t, optI_i, sl_t, sl_l, optR_k, optO_k, lcT_t, lcT_f, lcV_k, lcV_e, noX_k, lcF_fun, dkR_k, lstO_k, as_name, as_tup2, isN_0, isN_s, freed_n, freed_r, freed_e, lcM_map, lcM_some, lcM_filt, List.set_cons_zero, List.set_cons_succ, Bool.not_true, Bool.not_false, List.length_cons, List.length_nil, List.length_map, Nat.reduceAdd, isiD, Option.bind_some, Option.map_some, e_is_text hm d hd, h, Bool.false_eq_true, if_false]
theorem vt_is {m : Nat} {x : T} (h : VT m x) : isTxt m (.str x) = true := by
  show (x.all fun c => decide (c ∈ lets m)) = true
  rw [List.all_eq_true]
  exact fun c hc => decide_eq_true (h c hc)
theorem is_vt {m : Nat} {x : T} (h : isTxt m (.str x) = true) : VT m x := fun c hc => of_decide_eq_true (List.all_eq_true.mp h c hc)
theorem need_txt {m : Nat} (hm : m ≤ 4) {x : T} (h : VT m x) (hl : x.length ≤ 100000) : f_need_text [nI m, .str x] = .ok .non := by rw [e_need_text hm (.str x) hl, vt_is h, if_pos rfl]
end Pb
namespace Pb
open PySem PLq Bk
open L2 (atI ixN)
theorem cutL_hi {α : Type} (x : List α) (k : Nat) : cutL x none (some (k : Int)) = x.take k := by
  unfold cutL
  have e1 : HT.sIx x.length 0 none = 0 := rfl
  have e2 : HT.sIx x.length x.length (some (k : Int)) = min k x.length := by
    simp [HT.sIx]; try omega
  rw [e1, e2, List.drop_zero, Nat.sub_zero]
  by_cases h : k ≤ x.length
  · rw [Nat.min_eq_left h]
  · rw [Nat.min_eq_right (by omega), List.take_length, List.take_of_length_le (by omega)]
theorem cutL_lo {α : Type} (x : List α) (k : Nat) : cutL x (some (k : Int)) none = x.drop k := by
  unfold cutL
  have e1 : HT.sIx x.length x.length none = x.length := rfl
  have e2 : HT.sIx x.length 0 (some (k : Int)) = min k x.length := by
    simp [HT.sIx]; try omega
  rw [e1, e2]
  by_cases h : k ≤ x.length
  · rw [Nat.min_eq_left h, List.take_of_length_le (by simp)]
  · rw [Nat.min_eq_right (by omega), Nat.sub_self, List.take_zero, List.drop_eq_nil_of_le (by omega)]
theorem sls_hi {x : T} (k : Nat) (h : x.length ≤ 100000) : slD (.str x) none (some (k : Int)) = some (.str (x.take k)) := by rw [sl_s _ _ h, cutL_hi]
theorem sls_lo {x : T} (k : Nat) (h : x.length ≤ 100000) : slD (.str x) (some (k : Int)) none = some (.str (x.drop k)) := by rw [sl_s _ _ h, cutL_lo]
theorem starts_iff {x y : T} : startsT x y = true ↔ y <+: x := by
  unfold startsT
  rw [beq_iff_eq, List.prefix_iff_eq_take]
  exact eq_comm
theorem starts_d (x y : T) : startsT x y = decide (y <+: x) := by
  by_cases h : y <+: x
  · rw [starts_iff.mpr h, decide_eq_true h]
  · rw [decide_eq_false h]
    cases e : startsT x y with
    | true => exact absurd (starts_iff.mp e) h
    | false => rfl
theorem met_starts (x y : T) : metD .starts (.str x) [.str y] = some (.bl (decide (y <+: x))) := by
  rw [← starts_d]; rfl
theorem rec_starts (x : T) : recvOk .starts (.str x) = true := Eq.trans rfl rfl
abbrev hdK (l : List T) : D := .dk (l.map fun x => (D.str x, D.bl true))
theorem mkS_eq {x y : T} : mkS x = mkS y ↔ x = y := ⟨mkS_inj, fun h => by rw [h]⟩
theorem key_str (x y : T) : decide (keyD (.str x) = some (Sum.inr (mkS y))) = decide (x = y) := by
  rw [decide_eq_decide]
  show (some (Sum.inr (mkS x)) = some (Sum.inr (mkS y))) ↔ _
  rw [Option.some.injEq, Sum.inr.injEq, mkS_eq]
theorem putD_hd (l : List T) (x : T) : putD (l.map fun x => (D.str x, D.bl true)) (Sum.inr (mkS x)) (.str x) (.bl true) = (addN l x).map fun x => (D.str x, D.bl true) := by
  unfold putD
  have e : ((l.map fun x => (D.str x, D.bl true)).any fun p => decide (keyD p.1 = some (Sum.inr (mkS x)))) = decide (x ∈ l) := by
    rw [List.any_map]
    induction l with
    | nil => rfl
    | cons a l ih =>
      rw [List.any_cons, ih]
      show (decide (keyD (.str a) = some (Sum.inr (mkS x))) || _) = _
      rw [key_str]
      by_cases h : x = a
      · subst h; simp
      · have : ¬ a = x := fun e => h e.symm
        simp [h, this]
  rw [e]
  unfold addN
  by_cases h : x ∈ l
  · rw [decide_eq_true h, if_pos rfl, if_pos h, List.map_map]
    refine List.map_congr_left fun y hy => ?_
    show (if keyD (.str y) = some (Sum.inr (mkS x)) then (D.str y, D.bl true) else (D.str y, D.bl true)) = _
    split <;> rfl
  · rw [decide_eq_false h, if_neg (by decide), if_neg h, List.map_append]; rfl
theorem put_hd {l : List T} (x : T) (h : l.length < 100000) : putO (hdK l) (.str x) (.bl true) = some (hdK (addN l x)) := by
  show (if (l.map fun x => (D.str x, D.bl true)).length < szL then some (D.dk (putD (l.map fun x => (D.str x, D.bl true)) (Sum.inr (mkS x)) (.str x) (.bl true))) else none) = _
  rw [List.length_map, if_pos (Nat.lt_of_lt_of_le h (by decide)), putD_hd]
theorem dget_hd (l : List T) (x : T) : (dget (l.map fun x => (D.str x, D.bl true)) (.str x)).isSome = decide (x ∈ l) := by
  show (((l.map fun x => (D.str x, D.bl true)).find? fun p => decide (keyD p.1 = some (Sum.inr (mkS x)))).map (·.2)).isSome = _
  induction l with
  | nil => rfl
  | cons a l ih =>
    rw [List.map_cons, List.find?_cons]
    by_cases h : a = x
    · subst h
      have : decide (keyD (D.str a) = some (Sum.inr (mkS a))) = true := by rw [key_str]; simp
      simp only [this, Option.map_some, Option.isSome_some]; simp
    · have h2 : ¬ x = a := fun e => h e.symm
      have : decide (keyD (D.str a) = some (Sum.inr (mkS x))) = false := by rw [key_str]; simp [h]
      simp only [this, ih, List.mem_cons, h2, false_or]
theorem in_hd (l : List T) (x : T) : cmpD .in_ (.str x) (hdK l) = some (.bl (decide (x ∈ l))) := by
  show (if true = true then some (dget (l.map fun x => (D.str x, D.bl true)) (.str x)).isSome else none).map D.bl = _
  rw [dget_hd]; rfl
theorem nin_hd (l : List T) (x : T) : cmpD .nin (.str x) (hdK l) = some (.bl (!decide (x ∈ l))) := by
  show (if true = true then some (dget (l.map fun x => (D.str x, D.bl true)) (.str x)).isSome else none).map (fun k => D.bl (!k)) = _
  rw [dget_hd]; rfl
theorem dict_hd (l : List T) : xopD .dict [.lst (l.map fun x => .tup [.str x, .bl true])] = some (hdK (l.foldl addN [])) := by
  show (pairsD (l.map fun x => D.tup [.str x, .bl true])).map (fun ps => D.dk (mergeD [] ps)) = _
  have e : ∀ l : List T, pairsD (l.map fun x => D.tup [.str x, .bl true]) = some (l.map fun x => (D.str x, D.bl true)) := by
    intro l
    induction l with
    | nil => rfl
    | cons a l ih =>
      show (if true = true then (pairsD (l.map fun x => D.tup [.str x, .bl true])).map fun ps => (D.str a, D.bl true) :: ps else none) = _
      rw [ih]; rfl
  have f : ∀ l acc : List T, mergeD (acc.map fun x => (D.str x, D.bl true)) (l.map fun x => (D.str x, D.bl true)) = (l.foldl addN acc).map fun x => (D.str x, D.bl true) := by
    intro l
    induction l with
    | nil => intro acc; rfl
    | cons a l ih =>
      intro acc
      show mergeD (putD (acc.map fun x => (D.str x, D.bl true)) (Sum.inr (mkS a)) (.str a) (.bl true)) (l.map fun x => (D.str x, D.bl true)) = _
      rw [putD_hd, ih]; rfl
  rw [e, Option.map_some]
  exact congrArg (fun z => some (D.dk z)) (f l [])
theorem addN_len : ∀ (xs l : List T), (xs.foldl addN l).length ≤ l.length + xs.length
  | [], l => by simp
  | x :: xs, l => by
    rw [List.foldl_cons]
    have h1 := addN_len xs (addN l x)
    have h2 : (addN l x).length ≤ l.length + 1 := by
      unfold addN; split <;> simp
    simp only [List.length_cons]; omega
structure Sml (b : List T) : Prop where
  few : b.length ≤ 300
  short : ∀ p ∈ b, p.length ≤ 300
theorem pres_len (p : T) : (pres p).length = p.length := by simp [pres]
theorem flat_len : ∀ {b : List T}, (∀ p ∈ b, p.length ≤ 300) → (b.flatMap pres).length ≤ 300 * b.length
  | [], _ => by simp
  | p :: b, h => by
    have h1 := flat_len (b := b) fun q hq => h q (List.mem_cons_of_mem _ hq)
    have h2 := h p List.mem_cons_self
    rw [List.flatMap_cons, List.length_append, pres_len, List.length_cons]; omega
theorem Sml.pre {p r : List T} (h : Sml (p ++ r)) : Sml p := ⟨by have := h.few; rw [List.length_append] at this; omega, fun q hq => h.short q (List.mem_append_left _ hq)⟩
theorem Sml.hdl {b : List T} (h : Sml b) : (hdl b).length ≤ 90000 := by
  have h1 := addN_len (b.flatMap pres) []
  have h2 := flat_len h.short
  have h3 := h.few
  unfold Bk.hdl
  simp only [List.length_nil] at h1
  omega
theorem e_all_heads {b : List T} (h : Sml b) : f_all_heads [bkD b] = .ok (hdK (hdl b)) := by
  have loop := for_all (tg := .name 2) (b := runs G_all_heads C_all_heads b1_all_heads) D.str (fun q : List T => [some (bkD b), some (hdK ((q.flatMap pres).foldl addN [])), none, none]) b (by
    intro q p r e
    have hp : p ∈ b := by rw [e]; simp
    have hl := h.short p hp
    have inner := for_all (tg := .name 3) (b := runs G_all_heads C_all_heads b0_all_heads) nI (fun ks : List Nat => [some (bkD b), some (hdK ((ks.map fun k => p.take k).foldl addN ((q.flatMap pres).foldl addN []))), some (.str p), none]) (List.range p.length) (by
      intro ks k r2 e2
      refine ⟨_, rfl, ?_⟩
      have hk : ks.length ≤ 300 := by
        have := congrArg List.length e2
        simp at this; omega
      have l1 := addN_len (ks.map fun k => p.take k) ((q.flatMap pres).foldl addN [])
      have l2 := addN_len (q.flatMap pres) []
      have hq : Sml q := Sml.pre (r := p :: r) (e ▸ h)
      have l3 := flat_len hq.short
      have l4 := hq.few
      have sl := sls_hi (x := p) k (by omega)
      have pu := put_hd (l := (ks.map fun k => p.take k).foldl addN ((q.flatMap pres).foldl addN [])) (p.take k) (by simp only [List.length_map, List.length_nil] at l1 l2 ⊢; omega)
      simp only [u_all_heads, cd_all_heads, lenG_0, lenG_1, lenG_2, lenG_3, lenG_4, lenG_5, lenG_6, lenG_7, lenG_8, lenG_9, lenG_10, lenG_11, lenG_12, lenG_13, lenG_14, slot_0, slot_s, bind_k, bind_e, ofO_k, resO_k, resO_e, tstO_k, tstO_e, tst_k, tst_e, then_n, then_r, then_e, out_n, out_r, out_e, ifO_t, ifO_f, ifR_t, ifR_f, ev_var, ev_lvar, ev_int, ev_str, ev_bl, ev_non, ev_gstr, ev_gint, ev_bin, ev_neg, ev_cmp, ev_and, ev_or, ev_not, ev_ite, ev_tup, ev_lst, ev_dnew, ev_dnewT, ev_idx, ev_dget, ev_get3, ev_sl0, ev_sl1, ev_sl2, ev_isi, ev_bif, ev_met, ev_xop, ev_call, ev_call0, ev_fcall, ev_callL, ev_lc, ev_lcD, evs_nil, evs_cons, evi_of, evi_rng1, evi_rng2, evi_rng3, evi_zip, evi_enum, ev_chain, run_set, run_setF, run_setG, run_par, run_unp, run_unp3, lst3_k, run_ret, run_retL, run_expr, run_doc, run_rse, run_ite, run_whl, run_loop, run_app, run_ext, run_put, run_kill, run_tryX, catch_r, catch_n, run_frzB, run_fap, run_pop, run_popx, runs_nil, runs_cons, wipe_n, wipe_c, add_i, sub_i, op_mul, op_mod, op_div, idx_l, idx_t, idx_c, lt_i, le_i, gt_i, ge_i, len_l, len_t, len_c, tup_l, tup_t, items_l, items_t, optI_i, sl_t, sl_l, optR_k, optO_k, lcT_t, lcT_f, lcV_k, lcV_e, noX_k, lcF_fun, dkR_k, lstO_k, as_name, as_tup2, isN_0, isN_s, freed_n, freed_r, freed_e, lcM_map, lcM_some, lcM_filt, List.set_cons_zero, List.set_cons_succ, Bool.not_true, Bool.not_false, List.length_cons, List.length_nil, List.length_map, Nat.reduceAdd, isiD, Option.bind_some, Option.map_some, b0_all_heads, sl, pu]
      rw [List.map_append, List.foldl_append]; rfl)
    refine ⟨_, rfl, ?_⟩
    have inner' : forR (.name 3) (runs G_all_heads C_all_heads b0_all_heads) ((List.range p.length).map nI) [some (bkD b), some (hdK ((q.flatMap pres).foldl addN [])), some (.str p), none] = _ := inner
    simp only [u_all_heads, cd_all_heads, lenG_0, lenG_1, lenG_2, lenG_3, lenG_4, lenG_5, lenG_6, lenG_7, lenG_8, lenG_9, lenG_10, lenG_11, lenG_12, lenG_13, lenG_14, slot_0, slot_s, bind_k, bind_e, ofO_k, resO_k, resO_e, tstO_k, tstO_e, tst_k, tst_e, then_n, then_r, then_e, out_n, out_r, out_e, ifO_t, ifO_f, ifR_t, ifR_f, ev_var, ev_lvar, ev_int, ev_str, ev_bl, ev_non, ev_gstr, ev_gint, ev_bin, ev_neg, ev_cmp, ev_and, ev_or, ev_not, ev_ite, ev_tup, ev_lst, ev_dnew, ev_dnewT, ev_idx, ev_dget, ev_get3, ev_sl0, ev_sl1, ev_sl2, ev_isi, ev_bif, ev_met, ev_xop, ev_call, ev_call0, ev_fcall, ev_callL, ev_lc, ev_lcD, evs_nil, evs_cons, evi_of, evi_rng1, evi_rng2, evi_rng3, evi_zip, evi_enum, ev_chain, run_set, run_setF, run_setG, run_par, run_unp, run_unp3, lst3_k, run_ret, run_retL, run_expr, run_doc, run_rse, run_ite, run_whl, run_loop, run_app, run_ext, run_put, run_kill, run_tryX, catch_r, catch_n, run_frzB, run_fap, run_pop, run_popx, runs_nil, runs_cons, wipe_n, wipe_c, add_i, sub_i, op_mul, op_mod, op_div, idx_l, idx_t, idx_c, lt_i, le_i, gt_i, ge_i, len_l, len_t, len_c, tup_l, tup_t, items_l, items_t, optI_i, sl_t, sl_l, optR_k, optO_k, lcT_t, lcT_f, lcV_k, lcV_e, noX_k, lcF_fun, dkR_k, lstO_k, as_name, as_tup2, isN_0, isN_s, freed_n, freed_r, freed_e, lcM_map, lcM_some, lcM_filt, List.set_cons_zero, List.set_cons_succ, Bool.not_true, Bool.not_false, List.length_cons, List.length_nil, List.length_map, Nat.reduceAdd, isiD, Option.bind_some, Option.map_some, b1_all_heads, len_s (show p.length ≤ 100000 by omega), rng1_nat p.length (show p.length < 2 ^ 40 by omega), inner']
    rw [List.flatMap_append, List.foldl_append]
    simp only [List.flatMap_cons, List.flatMap_nil, List.append_nil]
    rfl)
  have loop' : forR (.name 2) (runs G_all_heads C_all_heads b1_all_heads) (b.map D.str) [some (bkD b), some (.dk []), none, none] = _ := loop
  simp only [u_all_heads, cd_all_heads, lenG_0, lenG_1, lenG_2, lenG_3, lenG_4, lenG_5, lenG_6, lenG_7, lenG_8, lenG_9, lenG_10, lenG_11, lenG_12, lenG_13, lenG_14, slot_0, slot_s, bind_k, bind_e, ofO_k, resO_k, resO_e, tstO_k, tstO_e, tst_k, tst_e, then_n, then_r, then_e, out_n, out_r, out_e, ifO_t, ifO_f, ifR_t, ifR_f, ev_var, ev_lvar, ev_int, ev_str, ev_bl, ev_non, ev_gstr, ev_gint, ev_bin, ev_neg, ev_cmp, ev_and, ev_or, ev_not, ev_ite, ev_tup, ev_lst, ev_dnew, ev_dnewT, ev_idx, ev_dget, ev_get3, ev_sl0, ev_sl1, ev_sl2, ev_isi, ev_bif, ev_met, ev_xop, ev_call, ev_call0, ev_fcall, ev_callL, ev_lc, ev_lcD, evs_nil, evs_cons, evi_of, evi_rng1, evi_rng2, evi_rng3, evi_zip, evi_enum, ev_chain, run_set, run_setF, run_setG, run_par, run_unp, run_unp3, lst3_k, run_ret, run_retL, run_expr, run_doc, run_rse, run_ite, run_whl, run_loop, run_app, run_ext, run_put, run_kill, run_tryX, catch_r, catch_n, run_frzB, run_fap, run_pop, run_popx, runs_nil, runs_cons, wipe_n, wipe_c, add_i, sub_i, op_mul, op_mod, op_div, idx_l, idx_t, idx_c, lt_i, le_i, gt_i, ge_i, len_l, len_t, len_c, tup_l, tup_t, items_l, items_t, optI_i, sl_t, sl_l, optR_k, optO_k, lcT_t, lcT_f, lcV_k, lcV_e, noX_k, lcF_fun, dkR_k, lstO_k, as_name, as_tup2, isN_0, isN_s, freed_n, freed_r, freed_e, lcM_map, lcM_some, lcM_filt, List.set_cons_zero, List.set_cons_succ, Bool.not_true, Bool.not_false, List.length_cons, List.length_nil, List.length_map, Nat.reduceAdd, isiD, Option.bind_some, Option.map_some, loop']
  rfl
theorem hdl_ok {b : List T} (h : OkB b) : OkB (hdl b) := fun x hx c hc => by
  obtain ⟨p, hp, ⟨z, rfl⟩, _⟩ := hdl_mem.mp hx
  exact h _ hp c (List.mem_append_left _ hc)
theorem e_inner_of {b : List T} (h : Sml b) (ok : OkB b) : f_inner_of [bkD b] = .ok (lsD (inn b)) := by
  have s : xopD .sorted [hdK (hdl b)] = some (lsD (inn b)) := by
    show sortedD (((hdl b).map fun x => (D.str x, D.bl true)).map (·.1)) = _
    rw [List.map_map]
    show (if srtOk ((hdl b).map D.str) then some (D.lst (((hdl b).map D.str).mergeSort leD)) else none) = _
    rw [if_pos (srtOk_str (hdl_ok ok) (Nat.le_trans h.hdl (by decide))), sort_str]; rfl
  simp only [u_inner_of, cd_inner_of, g0_inner_of, lenG_0, lenG_1, lenG_2, lenG_3, lenG_4, lenG_5, lenG_6, lenG_7, lenG_8, lenG_9, lenG_10, lenG_11, lenG_12, lenG_13, lenG_14, slot_0, slot_s, bind_k, bind_e, ofO_k, resO_k, resO_e, tstO_k, tstO_e, tst_k, tst_e, then_n, then_r, then_e, out_n, out_r, out_e, ifO_t, ifO_f, ifR_t, ifR_f, ev_var, ev_lvar, ev_int, ev_str, ev_bl, ev_non, ev_gstr, ev_gint, ev_bin, ev_neg, ev_cmp, ev_and, ev_or, ev_not, ev_ite, ev_tup, ev_lst, ev_dnew, ev_dnewT, ev_idx, ev_dget, ev_get3, ev_sl0, ev_sl1, ev_sl2, ev_isi, ev_bif, ev_met, ev_xop, ev_call, ev_call0, ev_fcall, ev_callL, ev_lc, ev_lcD, evs_nil, evs_cons, evi_of, evi_rng1, evi_rng2, evi_rng3, evi_zip, evi_enum, ev_chain, run_set, run_setF, run_setG, run_par, run_unp, run_unp3, lst3_k, run_ret, run_retL, run_expr, run_doc, run_rse, run_ite, run_whl, run_loop, run_app, run_ext, run_put, run_kill, run_tryX, catch_r, catch_n, run_frzB, run_fap, run_pop, run_popx, runs_nil, runs_cons, wipe_n, wipe_c, add_i, sub_i, op_mul, op_mod, op_div, idx_l, idx_t, idx_c, lt_i, le_i, gt_i, ge_i, len_l, len_t, len_c, tup_l, tup_t, items_l, items_t, optI_i, sl_t, sl_l, optR_k, optO_k, lcT_t, lcT_f, lcV_k, lcV_e, noX_k, lcF_fun, dkR_k, lstO_k, as_name, as_tup2, isN_0, isN_s, freed_n, freed_r, freed_e, lcM_map, lcM_some, lcM_filt, List.set_cons_zero, List.set_cons_succ, Bool.not_true, Bool.not_false, List.length_cons, List.length_nil, List.length_map, Nat.reduceAdd, isiD, Option.bind_some, Option.map_some, e_all_heads h, s]
end Pb
namespace Pb
open PySem PLq Bk
open L2 (atI ixN)
def optS : Option T → D
  | none => .non
  | some x => .str x
def optP : Option (T × T) → D
  | none => .non
  | some p => .tup [.str p.1, .str p.2]
theorem atI_hd (l : List D) : atI l 0 = l.head? := by
  cases l with
  | nil => rfl
  | cons a l => exact atI_nat (a :: l) 0 (by simp)
def tw (b : List T) : Option (T × T) := b.findSome? fun p => if p ∈ hdl b then some (p, (b.filter fun q => decide (q ≠ p) && decide (p <+: q)).headD []) else none
theorem findSome_map {α β γ : Type} (g : α → Option β) (f : β → γ) : ∀ l : List α, (l.findSome? fun a => (g a).map f) = (l.findSome? g).map f
  | [] => rfl
  | a :: l => by
    rw [List.findSome?_cons, List.findSome?_cons, findSome_map g f l]
    cases g a <;> rfl
theorem hd_filter {b : List T} {p : T} (h : p ∈ hdl b) : ∃ x l, (b.filter fun q => decide (q ≠ p) && decide (p <+: q)) = x :: l := by
  obtain ⟨q, hq, h1, h2⟩ := hdl_mem.mp h
  cases e : b.filter fun q => decide (q ≠ p) && decide (p <+: q) with
  | nil =>
    have := List.filter_eq_nil_iff.mp e q hq
    simp [h1, h2.symm] at this
  | cons x l => exact ⟨x, l, rfl⟩
theorem e_twice {b : List T} (h : Sml b) (ok : OkB b) : f_twice [bkD b] = .ok (optP (tw b)) := by
  have loop := for_first (tg := .name 2) (b := runs G_twice C_twice b2_twice) D.str [some (bkD b), some (hdK (hdl b)), none, none] (fun p => (if p ∈ hdl b then some (p, (b.filter fun q => decide (q ≠ p) && decide (p <+: q)).headD []) else none).map fun p => Out.ret (.tup [.str p.1, .str p.2]))
    (by
      intro a o q ρ2 e
      subst e
      split at q <;> simp at q) b (by
    intro p hp
    refine ⟨_, rfl, ?_⟩
    have lc := lcM_fl (F := fun q : T => lcT (ev G_twice C_twice t0_twice [some (bkD b), some (hdK (hdl b)), some (.str p), some (.str q)]) (lcV (ev G_twice C_twice e1_twice [some (bkD b), some (hdK (hdl b)), some (.str p), some (.str q)]))) (k := fun q => decide (q ≠ p) && decide (p <+: q)) (h := D.str) (l := b) fun q hq => by
      by_cases e : q = p
      · subst e
        simp only [u_twice, cd_twice, g0_twice, lenG_0, lenG_1, lenG_2, lenG_3, lenG_4, lenG_5, lenG_6, lenG_7, lenG_8, lenG_9, lenG_10, lenG_11, lenG_12, lenG_13, lenG_14, slot_0, slot_s, bind_k, bind_e, ofO_k, resO_k, resO_e, tstO_k, tstO_e, tst_k, tst_e, then_n, then_r, then_e, out_n, out_r, out_e, ifO_t, ifO_f, ifR_t, ifR_f, ev_var, ev_lvar, ev_int, ev_str, ev_bl, ev_non, ev_gstr, ev_gint, ev_bin, ev_neg, ev_cmp, ev_and, ev_or, ev_not, ev_ite, ev_tup, ev_lst, ev_dnew, ev_dnewT, ev_idx, ev_dget, ev_get3, ev_sl0, ev_sl1, ev_sl2, ev_isi, ev_bif, ev_met, ev_xop, ev_call, ev_call0, ev_fcall, ev_callL, ev_lc, ev_lcD, evs_nil, evs_cons, evi_of, evi_rng1, evi_rng2, evi_rng3, evi_zip, evi_enum, ev_chain, run_set, run_setF, run_setG, run_par, run_unp, run_unp3, lst3_k, run_ret, run_retL, run_expr, run_doc, run_rse, run_ite, run_whl, run_loop, run_app, run_ext, run_put, run_kill, run_tryX, catch_r, catch_n, run_frzB, run_fap, run_pop, run_popx, runs_nil, runs_cons, wipe_n, wipe_c, add_i, sub_i, op_mul, op_mod, op_div, idx_l, idx_t, idx_c, lt_i, le_i, gt_i, ge_i, len_l, len_t, len_c, tup_l, tup_t, items_l, items_t, optI_i, sl_t, sl_l, optR_k, optO_k, lcT_t, lcT_f, lcV_k, lcV_e, noX_k, lcF_fun, dkR_k, lstO_k, as_name, as_tup2, isN_0, isN_s, freed_n, freed_r, freed_e, lcM_map, lcM_some, lcM_filt, List.set_cons_zero, List.set_cons_succ, Bool.not_true, Bool.not_false, List.length_cons, List.length_nil, List.length_map, Nat.reduceAdd, isiD, Option.bind_some, Option.map_some, t0_twice, e1_twice, cne_str (ok q hq) (ok q hp), met_starts, rec_starts, decide_true, ne_eq, not_true_eq_false, decide_false, Bool.false_and]
      · simp only [u_twice, cd_twice, g0_twice, lenG_0, lenG_1, lenG_2, lenG_3, lenG_4, lenG_5, lenG_6, lenG_7, lenG_8, lenG_9, lenG_10, lenG_11, lenG_12, lenG_13, lenG_14, slot_0, slot_s, bind_k, bind_e, ofO_k, resO_k, resO_e, tstO_k, tstO_e, tst_k, tst_e, then_n, then_r, then_e, out_n, out_r, out_e, ifO_t, ifO_f, ifR_t, ifR_f, ev_var, ev_lvar, ev_int, ev_str, ev_bl, ev_non, ev_gstr, ev_gint, ev_bin, ev_neg, ev_cmp, ev_and, ev_or, ev_not, ev_ite, ev_tup, ev_lst, ev_dnew, ev_dnewT, ev_idx, ev_dget, ev_get3, ev_sl0, ev_sl1, ev_sl2, ev_isi, ev_bif, ev_met, ev_xop, ev_call, ev_call0, ev_fcall, ev_callL, ev_lc, ev_lcD, evs_nil, evs_cons, evi_of, evi_rng1, evi_rng2, evi_rng3, evi_zip, evi_enum, ev_chain, run_set, run_setF, run_setG, run_par, run_unp, run_unp3, lst3_k, run_ret, run_retL, run_expr, run_doc, run_rse, run_ite, run_whl, run_loop, run_app, run_ext, run_put, run_kill, run_tryX, catch_r, catch_n, run_frzB, run_fap, run_pop, run_popx, runs_nil, runs_cons, wipe_n, wipe_c, add_i, sub_i, op_mul, op_mod, op_div, idx_l, idx_t, idx_c, lt_i, le_i, gt_i, ge_i, len_l, len_t, len_c, tup_l, tup_t, items_l, items_t, optI_i, sl_t, sl_l, optR_k, optO_k, lcT_t, lcT_f, lcV_k, lcV_e, noX_k, lcF_fun, dkR_k, lstO_k, as_name, as_tup2, isN_0, isN_s, freed_n, freed_r, freed_e, lcM_map, lcM_some, lcM_filt, List.set_cons_zero, List.set_cons_succ, Bool.not_true, Bool.not_false, List.length_cons, List.length_nil, List.length_map, Nat.reduceAdd, isiD, Option.bind_some, Option.map_some, t0_twice, e1_twice, cne_str (ok q hq) (ok p hp), met_starts, rec_starts, e, decide_true, ne_eq, not_false_eq_true, decide_false, Bool.true_and]
    by_cases m : p ∈ hdl b
    · obtain ⟨x, l, e⟩ := hd_filter m
      have i0 : atI ((b.filter fun q => decide (q ≠ p) && decide (p <+: q)).map D.str) 0 = some (.str x) := by rw [atI_hd, e]; rfl
      simp only [u_twice, cd_twice, g0_twice, lenG_0, lenG_1, lenG_2, lenG_3, lenG_4, lenG_5, lenG_6, lenG_7, lenG_8, lenG_9, lenG_10, lenG_11, lenG_12, lenG_13, lenG_14, slot_0, slot_s, bind_k, bind_e, ofO_k, resO_k, resO_e, tstO_k, tstO_e, tst_k, tst_e, then_n, then_r, then_e, out_n, out_r, out_e, ifO_t, ifO_f, ifR_t, ifR_f, ev_var, ev_lvar, ev_int, ev_str, ev_bl, ev_non, ev_gstr, ev_gint, ev_bin, ev_neg, ev_cmp, ev_and, ev_or, ev_not, ev_ite, ev_tup, ev_lst, ev_dnew, ev_dnewT, ev_idx, ev_dget, ev_get3, ev_sl0, ev_sl1, ev_sl2, ev_isi, ev_bif, ev_met, ev_xop, ev_call, ev_call0, ev_fcall, ev_callL, ev_lc, ev_lcD, evs_nil, evs_cons, evi_of, evi_rng1, evi_rng2, evi_rng3, evi_zip, evi_enum, ev_chain, run_set, run_setF, run_setG, run_par, run_unp, run_unp3, lst3_k, run_ret, run_retL, run_expr, run_doc, run_rse, run_ite, run_whl, run_loop, run_app, run_ext, run_put, run_kill, run_tryX, catch_r, catch_n, run_frzB, run_fap, run_pop, run_popx, runs_nil, runs_cons, wipe_n, wipe_c, add_i, sub_i, op_mul, op_mod, op_div, idx_l, idx_t, idx_c, lt_i, le_i, gt_i, ge_i, len_l, len_t, len_c, tup_l, tup_t, items_l, items_t, optI_i, sl_t, sl_l, optR_k, optO_k, lcT_t, lcT_f, lcV_k, lcV_e, noX_k, lcF_fun, dkR_k, lstO_k, as_name, as_tup2, isN_0, isN_s, freed_n, freed_r, freed_e, lcM_map, lcM_some, lcM_filt, List.set_cons_zero, List.set_cons_succ, Bool.not_true, Bool.not_false, List.length_cons, List.length_nil, List.length_map, Nat.reduceAdd, isiD, Option.bind_some, Option.map_some, b2_twice, in_hd, m, decide_true, lenG_ok (show b.length ≤ 100000 by have := h.few; omega), lc, i0, if_true, Option.getD_some]
      rw [e]; rfl
    · simp only [u_twice, cd_twice, g0_twice, lenG_0, lenG_1, lenG_2, lenG_3, lenG_4, lenG_5, lenG_6, lenG_7, lenG_8, lenG_9, lenG_10, lenG_11, lenG_12, lenG_13, lenG_14, slot_0, slot_s, bind_k, bind_e, ofO_k, resO_k, resO_e, tstO_k, tstO_e, tst_k, tst_e, then_n, then_r, then_e, out_n, out_r, out_e, ifO_t, ifO_f, ifR_t, ifR_f, ev_var, ev_lvar, ev_int, ev_str, ev_bl, ev_non, ev_gstr, ev_gint, ev_bin, ev_neg, ev_cmp, ev_and, ev_or, ev_not, ev_ite, ev_tup, ev_lst, ev_dnew, ev_dnewT, ev_idx, ev_dget, ev_get3, ev_sl0, ev_sl1, ev_sl2, ev_isi, ev_bif, ev_met, ev_xop, ev_call, ev_call0, ev_fcall, ev_callL, ev_lc, ev_lcD, evs_nil, evs_cons, evi_of, evi_rng1, evi_rng2, evi_rng3, evi_zip, evi_enum, ev_chain, run_set, run_setF, run_setG, run_par, run_unp, run_unp3, lst3_k, run_ret, run_retL, run_expr, run_doc, run_rse, run_ite, run_whl, run_loop, run_app, run_ext, run_put, run_kill, run_tryX, catch_r, catch_n, run_frzB, run_fap, run_pop, run_popx, runs_nil, runs_cons, wipe_n, wipe_c, add_i, sub_i, op_mul, op_mod, op_div, idx_l, idx_t, idx_c, lt_i, le_i, gt_i, ge_i, len_l, len_t, len_c, tup_l, tup_t, items_l, items_t, optI_i, sl_t, sl_l, optR_k, optO_k, lcT_t, lcT_f, lcV_k, lcV_e, noX_k, lcF_fun, dkR_k, lstO_k, as_name, as_tup2, isN_0, isN_s, freed_n, freed_r, freed_e, lcM_map, lcM_some, lcM_filt, List.set_cons_zero, List.set_cons_succ, Bool.not_true, Bool.not_false, List.length_cons, List.length_nil, List.length_map, Nat.reduceAdd, isiD, Option.bind_some, Option.map_some, b2_twice, in_hd, m, decide_false, if_false, Option.map_none, Option.getD_none])
  simp only [u_twice, cd_twice, g0_twice, lenG_0, lenG_1, lenG_2, lenG_3, lenG_4, lenG_5, lenG_6, lenG_7, lenG_8, lenG_9, lenG_10, lenG_11, lenG_12, lenG_13, lenG_14, slot_0, slot_s, bind_k, bind_e, ofO_k, resO_k, resO_e, tstO_k, tstO_e, tst_k, tst_e, then_n, then_r, then_e, out_n, out_r, out_e, ifO_t, ifO_f, ifR_t, ifR_f, ev_var, ev_lvar, ev_int, ev_str, ev_bl, ev_non, ev_gstr, ev_gint, ev_bin, ev_neg, ev_cmp, ev_and, ev_or, ev_not, ev_ite, ev_tup, ev_lst, ev_dnew, ev_dnewT, ev_idx, ev_dget, ev_get3, ev_sl0, ev_sl1, ev_sl2, ev_isi, ev_bif, ev_met, ev_xop, ev_call, ev_call0, ev_fcall, ev_callL, ev_lc, ev_lcD, evs_nil, evs_cons, evi_of, evi_rng1, evi_rng2, evi_rng3, evi_zip, evi_enum, ev_chain, run_set, run_setF, run_setG, run_par, run_unp, run_unp3, lst3_k, run_ret, run_retL, run_expr, run_doc, run_rse, run_ite, run_whl, run_loop, run_app, run_ext, run_put, run_kill, run_tryX, catch_r, catch_n, run_frzB, run_fap, run_pop, run_popx, runs_nil, runs_cons, wipe_n, wipe_c, add_i, sub_i, op_mul, op_mod, op_div, idx_l, idx_t, idx_c, lt_i, le_i, gt_i, ge_i, len_l, len_t, len_c, tup_l, tup_t, items_l, items_t, optI_i, sl_t, sl_l, optR_k, optO_k, lcT_t, lcT_f, lcV_k, lcV_e, noX_k, lcF_fun, dkR_k, lstO_k, as_name, as_tup2, isN_0, isN_s, freed_n, freed_r, freed_e, lcM_map, lcM_some, lcM_filt, List.set_cons_zero, List.set_cons_succ, Bool.not_true, Bool.not_false, List.length_cons, List.length_nil, List.length_map, Nat.reduceAdd, isiD, Option.bind_some, Option.map_some, e_all_heads h, loop]
  rw [findSome_map]
  show outR (Out.then (Option.getD (Option.map _ (tw b)) _) _) = _
  cases tw b with
  | none => simp only [u_twice, cd_twice, g0_twice, lenG_0, lenG_1, lenG_2, lenG_3, lenG_4, lenG_5, lenG_6, lenG_7, lenG_8, lenG_9, lenG_10, lenG_11, lenG_12, lenG_13, lenG_14, slot_0, slot_s, bind_k, bind_e, ofO_k, resO_k, resO_e, tstO_k, tstO_e, tst_k, tst_e, then_n, then_r, then_e, out_n, out_r, out_e, ifO_t, ifO_f, ifR_t, ifR_f, ev_var, ev_lvar, ev_int, ev_str, ev_bl, ev_non, ev_gstr, ev_gint, ev_bin, ev_neg, ev_cmp, ev_and, ev_or, ev_not, ev_ite, ev_tup, ev_lst, ev_dnew, ev_dnewT, ev_idx, ev_dget, ev_get3, ev_sl0, ev_sl1, ev_sl2, ev_isi, ev_bif, ev_met, ev_xop, ev_call, ev_call0, ev_fcall, ev_callL, ev_lc, ev_lcD, evs_nil, evs_cons, evi_of, evi_rng1, evi_rng2, evi_rng3, evi_zip, evi_enum, ev_chain, run_set, run_setF, run_setG, run_par, run_unp, run_unp3, lst3_k, run_ret, run_retL, run_expr, run_doc, run_rse, run_ite, run_whl, run_loop, run_app, run_ext, run_put, run_kill, run_tryX, catch_r, catch_n, run_frzB, run_fap, run_pop, run_popx, runs_nil, runs_cons, wipe_n, wipe_c, add_i, sub_i, op_mul, op_mod, op_div, idx_l, idx_t, idx_c, lt_i, le_i, gt_i, ge_i, len_l, len_t, len_c, tup_l, tup_t, items_l, items_t, optI_i, sl_t, sl_l, optR_k, optO_k, lcT_t, lcT_f, lcV_k, lcV_e, noX_k, lcF_fun, dkR_k, lstO_k, as_name, as_tup2, isN_0, isN_s, freed_n, freed_r, freed_e, lcM_map, lcM_some, lcM_filt, List.set_cons_zero, List.set_cons_succ, Bool.not_true, Bool.not_false, List.length_cons, List.length_nil, List.length_map, Nat.reduceAdd, isiD, Option.bind_some, Option.map_some, Option.map_none, Option.getD_none, optP]
  | some p => simp only [u_twice, cd_twice, g0_twice, lenG_0, lenG_1, lenG_2, lenG_3, lenG_4, lenG_5, lenG_6, lenG_7, lenG_8, lenG_9, lenG_10, lenG_11, lenG_12, lenG_13, lenG_14, slot_0, slot_s, bind_k, bind_e, ofO_k, resO_k, resO_e, tstO_k, tstO_e, tst_k, tst_e, then_n, then_r, then_e, out_n, out_r, out_e, ifO_t, ifO_f, ifR_t, ifR_f, ev_var, ev_lvar, ev_int, ev_str, ev_bl, ev_non, ev_gstr, ev_gint, ev_bin, ev_neg, ev_cmp, ev_and, ev_or, ev_not, ev_ite, ev_tup, ev_lst, ev_dnew, ev_dnewT, ev_idx, ev_dget, ev_get3, ev_sl0, ev_sl1, ev_sl2, ev_isi, ev_bif, ev_met, ev_xop, ev_call, ev_call0, ev_fcall, ev_callL, ev_lc, ev_lcD, evs_nil, evs_cons, evi_of, evi_rng1, evi_rng2, evi_rng3, evi_zip, evi_enum, ev_chain, run_set, run_setF, run_setG, run_par, run_unp, run_unp3, lst3_k, run_ret, run_retL, run_expr, run_doc, run_rse, run_ite, run_whl, run_loop, run_app, run_ext, run_put, run_kill, run_tryX, catch_r, catch_n, run_frzB, run_fap, run_pop, run_popx, runs_nil, runs_cons, wipe_n, wipe_c, add_i, sub_i, op_mul, op_mod, op_div, idx_l, idx_t, idx_c, lt_i, le_i, gt_i, ge_i, len_l, len_t, len_c, tup_l, tup_t, items_l, items_t, optI_i, sl_t, sl_l, optR_k, optO_k, lcT_t, lcT_f, lcV_k, lcV_e, noX_k, lcF_fun, dkR_k, lstO_k, as_name, as_tup2, isN_0, isN_s, freed_n, freed_r, freed_e, lcM_map, lcM_some, lcM_filt, List.set_cons_zero, List.set_cons_succ, Bool.not_true, Bool.not_false, List.length_cons, List.length_nil, List.length_map, Nat.reduceAdd, isiD, Option.bind_some, Option.map_some, Option.map_some, Option.getD_some, optP]
def pL (x : T) : D := .tup [nI x.length, .str x]
def gs (b : List T) : List T := (hdl b).mergeSort fun x y => leD (pL x) (pL y)
theorem gs_perm (b : List T) : (gs b).Perm (hdl b) := List.mergeSort_perm _ _
theorem gs_mem {b : List T} {x : T} : x ∈ gs b ↔ Hd b x := by rw [(gs_perm b).mem_iff, hdl_mem]
theorem srt_gs {b : List T} (ok : OkB b) (h : Sml b) : xopD .sorted [.lst ((hdl b).map pL)] = some (.lst ((gs b).map pL)) := by
  show (if srtOk ((hdl b).map pL) then some (D.lst (((hdl b).map pL).mergeSort leD)) else none) = _
  have e : ((hdl b).map pL).mergeSort leD = (gs b).map pL := (List.map_mergeSort (f := pL) (r := fun x y => leD (pL x) (pL y)) (s := leD) fun a _ b _ => rfl).symm
  rw [if_pos, e]
  have oh := hdl_ok ok
  have hl := h.hdl
  unfold srtOk
  simp only [Bool.and_eq_true, List.all_map, List.all_eq_true, decide_eq_true_eq, List.length_map, Function.comp_apply, Bool.or_eq_true]
  refine ⟨⟨⟨fun x _ y _ => rfl, .inl fun x _ => rfl⟩, fun x hx => ⟨fine_low (k := 1) (low_tup fun d hd => ?_) (by decide), ?_⟩⟩, Nat.le_trans hl (by decide)⟩
  · rcases List.mem_cons.mp hd with rfl | hd
    · rfl
    · have := List.mem_singleton.mp hd
      subst this
      exact low_str (oh x hx)
  · show 0 + 1 ≤ 50
    decide
def gp (m : Nat) (b : List T) : Option T := (gs b).findSome? fun x => (lets m).findSome? fun c => if x ++ [c] ∉ hdl b ∧ x ++ [c] ∉ b then some (x ++ [c]) else none
theorem mem_addN {b : List T} {x : T} : x ∈ b.foldl addN [] ↔ x ∈ b := by
  rw [(addN_fold b [] List.nodup_nil).2]; simp
theorem e_gap {m : Nat} {b : List T} (hm : m ≤ 4) (h : Sml b) (ok : OkB b) : f_gap [nI m, bkD b] = .ok (optS (gp m b)) := by
  have lc0 := lcM_is (F := fun q : T => lcV (ev G_gap C_gap e0_gap [some (nI m), some (bkD b), some (hdK (hdl b)), none, none, none, none, some (.str q)])) (h := fun q : T => D.tup [.str q, .bl true]) (l := b) fun q hq => by
    simp only [u_gap, cd_gap, g0_gap, g1_gap, lenG_0, lenG_1, lenG_2, lenG_3, lenG_4, lenG_5, lenG_6, lenG_7, lenG_8, lenG_9, lenG_10, lenG_11, lenG_12, lenG_13, lenG_14, slot_0, slot_s, bind_k, bind_e, ofO_k, resO_k, resO_e, tstO_k, tstO_e, tst_k, tst_e, then_n, then_r, then_e, out_n, out_r, out_e, ifO_t, ifO_f, ifR_t, ifR_f, ev_var, ev_lvar, ev_int, ev_str, ev_bl, ev_non, ev_gstr, ev_gint, ev_bin, ev_neg, ev_cmp, ev_and, ev_or, ev_not, ev_ite, ev_tup, ev_lst, ev_dnew, ev_dnewT, ev_idx, ev_dget, ev_get3, ev_sl0, ev_sl1, ev_sl2, ev_isi, ev_bif, ev_met, ev_xop, ev_call, ev_call0, ev_fcall, ev_callL, ev_lc, ev_lcD, evs_nil, evs_cons, evi_of, evi_rng1, evi_rng2, evi_rng3, evi_zip, evi_enum, ev_chain, run_set, run_setF, run_setG, run_par, run_unp, run_unp3, lst3_k, run_ret, run_retL, run_expr, run_doc, run_rse, run_ite, run_whl, run_loop, run_app, run_ext, run_put, run_kill, run_tryX, catch_r, catch_n, run_frzB, run_fap, run_pop, run_popx, runs_nil, runs_cons, wipe_n, wipe_c, add_i, sub_i, op_mul, op_mod, op_div, idx_l, idx_t, idx_c, lt_i, le_i, gt_i, ge_i, len_l, len_t, len_c, tup_l, tup_t, items_l, items_t, optI_i, sl_t, sl_l, optR_k, optO_k, lcT_t, lcT_f, lcV_k, lcV_e, noX_k, lcF_fun, dkR_k, lstO_k, as_name, as_tup2, isN_0, isN_s, freed_n, freed_r, freed_e, lcM_map, lcM_some, lcM_filt, List.set_cons_zero, List.set_cons_succ, Bool.not_true, Bool.not_false, List.length_cons, List.length_nil, List.length_map, Nat.reduceAdd, isiD, Option.bind_some, Option.map_some, e0_gap]
  have lc1 := lcM_is (F := fun q : T => lcV (ev G_gap C_gap e1_gap [some (nI m), some (bkD b), some (hdK (hdl b)), some (hdK (b.foldl addN [])), none, some (.str q), none, none])) (h := pL) (l := hdl b) fun q hq => by
    have hq' : q.length ≤ 300 := by
      obtain ⟨p, hp, hq1, _⟩ := hdl_mem.mp hq
      exact Nat.le_trans hq1.length_le (h.short p hp)
    simp only [u_gap, cd_gap, g0_gap, g1_gap, lenG_0, lenG_1, lenG_2, lenG_3, lenG_4, lenG_5, lenG_6, lenG_7, lenG_8, lenG_9, lenG_10, lenG_11, lenG_12, lenG_13, lenG_14, slot_0, slot_s, bind_k, bind_e, ofO_k, resO_k, resO_e, tstO_k, tstO_e, tst_k, tst_e, then_n, then_r, then_e, out_n, out_r, out_e, ifO_t, ifO_f, ifR_t, ifR_f, ev_var, ev_lvar, ev_int, ev_str, ev_bl, ev_non, ev_gstr, ev_gint, ev_bin, ev_neg, ev_cmp, ev_and, ev_or, ev_not, ev_ite, ev_tup, ev_lst, ev_dnew, ev_dnewT, ev_idx, ev_dget, ev_get3, ev_sl0, ev_sl1, ev_sl2, ev_isi, ev_bif, ev_met, ev_xop, ev_call, ev_call0, ev_fcall, ev_callL, ev_lc, ev_lcD, evs_nil, evs_cons, evi_of, evi_rng1, evi_rng2, evi_rng3, evi_zip, evi_enum, ev_chain, run_set, run_setF, run_setG, run_par, run_unp, run_unp3, lst3_k, run_ret, run_retL, run_expr, run_doc, run_rse, run_ite, run_whl, run_loop, run_app, run_ext, run_put, run_kill, run_tryX, catch_r, catch_n, run_frzB, run_fap, run_pop, run_popx, runs_nil, runs_cons, wipe_n, wipe_c, add_i, sub_i, op_mul, op_mod, op_div, idx_l, idx_t, idx_c, lt_i, le_i, gt_i, ge_i, len_l, len_t, len_c, tup_l, tup_t, items_l, items_t, optI_i, sl_t, sl_l, optR_k, optO_k, lcT_t, lcT_f, lcV_k, lcV_e, noX_k, lcF_fun, dkR_k, lstO_k, as_name, as_tup2, isN_0, isN_s, freed_n, freed_r, freed_e, lcM_map, lcM_some, lcM_filt, List.set_cons_zero, List.set_cons_succ, Bool.not_true, Bool.not_false, List.length_cons, List.length_nil, List.length_map, Nat.reduceAdd, isiD, Option.bind_some, Option.map_some, e1_gap, len_s (show q.length ≤ 100000 by omega)]
    rfl
  have loop := for_first (tg := .tup2 (.name 4) (.name 5)) (b := runs G_gap C_gap b3_gap) pL [some (nI m), some (bkD b), some (hdK (hdl b)), some (hdK (b.foldl addN [])), none, none, none, none]
    (fun x => ((lets m).findSome? fun c => if x ++ [c] ∉ hdl b ∧ x ++ [c] ∉ b then some (x ++ [c]) else none).map fun x => Out.ret (.str x))
    (by
      intro a o q ρ2 e
      subst e
      cases r : (lets m).findSome? fun c => if a ++ [c] ∉ hdl b ∧ a ++ [c] ∉ b then some (a ++ [c]) else none with
      | none => rw [r] at q; cases q
      | some z => rw [r] at q; cases q) (gs b) (by
    intro x hx
    have hx' : x.length ≤ 300 := by
      obtain ⟨p, hp, hq1, _⟩ := gs_mem.mp hx
      exact Nat.le_trans hq1.length_le (h.short p hp)
    refine ⟨[some (nI m), some (bkD b), some (hdK (hdl b)), some (hdK (b.foldl addN [])), some (nI x.length), some (.str x), none, none], rfl, ?_⟩
    have inner := for_first (tg := .name 6) (b := runs G_gap C_gap b2_gap) (fun c : Nat => D.str [c]) [some (nI m), some (bkD b), some (hdK (hdl b)), some (hdK (b.foldl addN [])), some (nI x.length), some (.str x), none, none]
      (fun c => (if x ++ [c] ∉ hdl b ∧ x ++ [c] ∉ b then some (x ++ [c]) else none).map fun x => Out.ret (.str x))
      (by
        intro a o q ρ2 e
        subst e
        split at q <;> simp at q) (lets m) (by
      intro c hc
      refine ⟨_, rfl, ?_⟩
      have ad := add_s (x := x) (y := [c]) (by simp; omega)
      by_cases m1 : x ++ [c] ∈ hdl b
      · simp only [u_gap, cd_gap, g0_gap, g1_gap, lenG_0, lenG_1, lenG_2, lenG_3, lenG_4, lenG_5, lenG_6, lenG_7, lenG_8, lenG_9, lenG_10, lenG_11, lenG_12, lenG_13, lenG_14, slot_0, slot_s, bind_k, bind_e, ofO_k, resO_k, resO_e, tstO_k, tstO_e, tst_k, tst_e, then_n, then_r, then_e, out_n, out_r, out_e, ifO_t, ifO_f, ifR_t, ifR_f, ev_var, ev_lvar, ev_int, ev_str, ev_bl, ev_non, ev_gstr, ev_gint, ev_bin, ev_neg, ev_cmp, ev_and, ev_or, ev_not, ev_ite, ev_tup, ev_lst, ev_dnew, ev_dnewT, ev_idx, ev_dget, ev_get3, ev_sl0, ev_sl1, ev_sl2, ev_isi, ev_bif, ev_met, ev_xop, ev_call, ev_call0, ev_fcall, ev_callL, ev_lc, ev_lcD, evs_nil, evs_cons, evi_of, evi_rng1, evi_rng2, evi_rng3, evi_zip, evi_enum, ev_chain, run_set, run_setF, run_setG, run_par, run_unp, run_unp3, lst3_k, run_ret, run_retL, run_expr, run_doc, run_rse, run_ite, run_whl, run_loop, run_app, run_ext, run_put, run_kill, run_tryX, catch_r, catch_n, run_frzB, run_fap, run_pop, run_popx, runs_nil, runs_cons, wipe_n, wipe_c, add_i, sub_i, op_mul, op_mod, op_div, idx_l, idx_t, idx_c, lt_i, le_i, gt_i, ge_i, len_l, len_t, len_c, tup_l, tup_t, items_l, items_t, optI_i, sl_t, sl_l, optR_k, optO_k, lcT_t, lcT_f, lcV_k, lcV_e, noX_k, lcF_fun, dkR_k, lstO_k, as_name, as_tup2, isN_0, isN_s, freed_n, freed_r, freed_e, lcM_map, lcM_some, lcM_filt, List.set_cons_zero, List.set_cons_succ, Bool.not_true, Bool.not_false, List.length_cons, List.length_nil, List.length_map, Nat.reduceAdd, isiD, Option.bind_some, Option.map_some, b2_gap, ad, nin_hd, m1, decide_true, not_true_eq_false, false_and, if_false, Option.map_none, Option.getD_none]
      · by_cases m2 : x ++ [c] ∈ b
        · have m3 := mem_addN.mpr m2
          simp only [u_gap, cd_gap, g0_gap, g1_gap, lenG_0, lenG_1, lenG_2, lenG_3, lenG_4, lenG_5, lenG_6, lenG_7, lenG_8, lenG_9, lenG_10, lenG_11, lenG_12, lenG_13, lenG_14, slot_0, slot_s, bind_k, bind_e, ofO_k, resO_k, resO_e, tstO_k, tstO_e, tst_k, tst_e, then_n, then_r, then_e, out_n, out_r, out_e, ifO_t, ifO_f, ifR_t, ifR_f, ev_var, ev_lvar, ev_int, ev_str, ev_bl, ev_non, ev_gstr, ev_gint, ev_bin, ev_neg, ev_cmp, ev_and, ev_or, ev_not, ev_ite, ev_tup, ev_lst, ev_dnew, ev_dnewT, ev_idx, ev_dget, ev_get3, ev_sl0, ev_sl1, ev_sl2, ev_isi, ev_bif, ev_met, ev_xop, ev_call, ev_call0, ev_fcall, ev_callL, ev_lc, ev_lcD, evs_nil, evs_cons, evi_of, evi_rng1, evi_rng2, evi_rng3, evi_zip, evi_enum, ev_chain, run_set, run_setF, run_setG, run_par, run_unp, run_unp3, lst3_k, run_ret, run_retL, run_expr, run_doc, run_rse, run_ite, run_whl, run_loop, run_app, run_ext, run_put, run_kill, run_tryX, catch_r, catch_n, run_frzB, run_fap, run_pop, run_popx, runs_nil, runs_cons, wipe_n, wipe_c, add_i, sub_i, op_mul, op_mod, op_div, idx_l, idx_t, idx_c, lt_i, le_i, gt_i, ge_i, len_l, len_t, len_c, tup_l, tup_t, items_l, items_t, optI_i, sl_t, sl_l, optR_k, optO_k, lcT_t, lcT_f, lcV_k, lcV_e, noX_k, lcF_fun, dkR_k, lstO_k, as_name, as_tup2, isN_0, isN_s, freed_n, freed_r, freed_e, lcM_map, lcM_some, lcM_filt, List.set_cons_zero, List.set_cons_succ, Bool.not_true, Bool.not_false, List.length_cons, List.length_nil, List.length_map, Nat.reduceAdd, isiD, Option.bind_some, Option.map_some, b2_gap, ad, nin_hd, m1, m2, m3, decide_true, decide_false, not_true_eq_false, and_false, if_false, Option.map_none, Option.getD_none]
        · have m3 : ¬ x ++ [c] ∈ b.foldl addN [] := fun q => m2 (mem_addN.mp q)
          simp only [u_gap, cd_gap, g0_gap, g1_gap, lenG_0, lenG_1, lenG_2, lenG_3, lenG_4, lenG_5, lenG_6, lenG_7, lenG_8, lenG_9, lenG_10, lenG_11, lenG_12, lenG_13, lenG_14, slot_0, slot_s, bind_k, bind_e, ofO_k, resO_k, resO_e, tstO_k, tstO_e, tst_k, tst_e, then_n, then_r, then_e, out_n, out_r, out_e, ifO_t, ifO_f, ifR_t, ifR_f, ev_var, ev_lvar, ev_int, ev_str, ev_bl, ev_non, ev_gstr, ev_gint, ev_bin, ev_neg, ev_cmp, ev_and, ev_or, ev_not, ev_ite, ev_tup, ev_lst, ev_dnew, ev_dnewT, ev_idx, ev_dget, ev_get3, ev_sl0, ev_sl1, ev_sl2, ev_isi, ev_bif, ev_met, ev_xop, ev_call, ev_call0, ev_fcall, ev_callL, ev_lc, ev_lcD, evs_nil, evs_cons, evi_of, evi_rng1, evi_rng2, evi_rng3, evi_zip, evi_enum, ev_chain, run_set, run_setF, run_setG, run_par, run_unp, run_unp3, lst3_k, run_ret, run_retL, run_expr, run_doc, run_rse, run_ite, run_whl, run_loop, run_app, run_ext, run_put, run_kill, run_tryX, catch_r, catch_n, run_frzB, run_fap, run_pop, run_popx, runs_nil, runs_cons, wipe_n, wipe_c, add_i, sub_i, op_mul, op_mod, op_div, idx_l, idx_t, idx_c, lt_i, le_i, gt_i, ge_i, len_l, len_t, len_c, tup_l, tup_t, items_l, items_t, optI_i, sl_t, sl_l, optR_k, optO_k, lcT_t, lcT_f, lcV_k, lcV_e, noX_k, lcF_fun, dkR_k, lstO_k, as_name, as_tup2, isN_0, isN_s, freed_n, freed_r, freed_e, lcM_map, lcM_some, lcM_filt, List.set_cons_zero, List.set_cons_succ, Bool.not_true, Bool.not_false, List.length_cons, List.length_nil, List.length_map, Nat.reduceAdd, isiD, Option.bind_some, Option.map_some, b2_gap, ad, nin_hd, m1, m2, m3, decide_true, decide_false, not_false_eq_true, and_self, if_true, Option.map_some, Option.getD_some])
    rw [findSome_map] at inner
    have hl4 : (lets m).length ≤ 100000 := by rw [lets_len hm]; omega
    cases r : (lets m).findSome? fun c => if x ++ [c] ∉ hdl b ∧ x ++ [c] ∉ b then some (x ++ [c]) else none with
    | none =>
      rw [r] at inner
      simp only [u_gap, cd_gap, g0_gap, g1_gap, lenG_0, lenG_1, lenG_2, lenG_3, lenG_4, lenG_5, lenG_6, lenG_7, lenG_8, lenG_9, lenG_10, lenG_11, lenG_12, lenG_13, lenG_14, slot_0, slot_s, bind_k, bind_e, ofO_k, resO_k, resO_e, tstO_k, tstO_e, tst_k, tst_e, then_n, then_r, then_e, out_n, out_r, out_e, ifO_t, ifO_f, ifR_t, ifR_f, ev_var, ev_lvar, ev_int, ev_str, ev_bl, ev_non, ev_gstr, ev_gint, ev_bin, ev_neg, ev_cmp, ev_and, ev_or, ev_not, ev_ite, ev_tup, ev_lst, ev_dnew, ev_dnewT, ev_idx, ev_dget, ev_get3, ev_sl0, ev_sl1, ev_sl2, ev_isi, ev_bif, ev_met, ev_xop, ev_call, ev_call0, ev_fcall, ev_callL, ev_lc, ev_lcD, evs_nil, evs_cons, evi_of, evi_rng1, evi_rng2, evi_rng3, evi_zip, evi_enum, ev_chain, run_set, run_setF, run_setG, run_par, run_unp, run_unp3, lst3_k, run_ret, run_retL, run_expr, run_doc, run_rse, run_ite, run_whl, run_loop, run_app, run_ext, run_put, run_kill, run_tryX, catch_r, catch_n, run_frzB, run_fap, run_pop, run_popx, runs_nil, runs_cons, wipe_n, wipe_c, add_i, sub_i, op_mul, op_mod, op_div, idx_l, idx_t, idx_c, lt_i, le_i, gt_i, ge_i, len_l, len_t, len_c, tup_l, tup_t, items_l, items_t, optI_i, sl_t, sl_l, optR_k, optO_k, lcT_t, lcT_f, lcV_k, lcV_e, noX_k, lcF_fun, dkR_k, lstO_k, as_name, as_tup2, isN_0, isN_s, freed_n, freed_r, freed_e, lcM_map, lcM_some, lcM_filt, List.set_cons_zero, List.set_cons_succ, Bool.not_true, Bool.not_false, List.length_cons, List.length_nil, List.length_map, Nat.reduceAdd, isiD, Option.bind_some, Option.map_some, b3_gap, e_letters_of hm, items_sT hl4, inner, Option.map_none, Option.getD_none]
    | some z =>
      rw [r] at inner
      simp only [u_gap, cd_gap, g0_gap, g1_gap, lenG_0, lenG_1, lenG_2, lenG_3, lenG_4, lenG_5, lenG_6, lenG_7, lenG_8, lenG_9, lenG_10, lenG_11, lenG_12, lenG_13, lenG_14, slot_0, slot_s, bind_k, bind_e, ofO_k, resO_k, resO_e, tstO_k, tstO_e, tst_k, tst_e, then_n, then_r, then_e, out_n, out_r, out_e, ifO_t, ifO_f, ifR_t, ifR_f, ev_var, ev_lvar, ev_int, ev_str, ev_bl, ev_non, ev_gstr, ev_gint, ev_bin, ev_neg, ev_cmp, ev_and, ev_or, ev_not, ev_ite, ev_tup, ev_lst, ev_dnew, ev_dnewT, ev_idx, ev_dget, ev_get3, ev_sl0, ev_sl1, ev_sl2, ev_isi, ev_bif, ev_met, ev_xop, ev_call, ev_call0, ev_fcall, ev_callL, ev_lc, ev_lcD, evs_nil, evs_cons, evi_of, evi_rng1, evi_rng2, evi_rng3, evi_zip, evi_enum, ev_chain, run_set, run_setF, run_setG, run_par, run_unp, run_unp3, lst3_k, run_ret, run_retL, run_expr, run_doc, run_rse, run_ite, run_whl, run_loop, run_app, run_ext, run_put, run_kill, run_tryX, catch_r, catch_n, run_frzB, run_fap, run_pop, run_popx, runs_nil, runs_cons, wipe_n, wipe_c, add_i, sub_i, op_mul, op_mod, op_div, idx_l, idx_t, idx_c, lt_i, le_i, gt_i, ge_i, len_l, len_t, len_c, tup_l, tup_t, items_l, items_t, optI_i, sl_t, sl_l, optR_k, optO_k, lcT_t, lcT_f, lcV_k, lcV_e, noX_k, lcF_fun, dkR_k, lstO_k, as_name, as_tup2, isN_0, isN_s, freed_n, freed_r, freed_e, lcM_map, lcM_some, lcM_filt, List.set_cons_zero, List.set_cons_succ, Bool.not_true, Bool.not_false, List.length_cons, List.length_nil, List.length_map, Nat.reduceAdd, isiD, Option.bind_some, Option.map_some, b3_gap, e_letters_of hm, items_sT hl4, inner, Option.getD_some])
  rw [findSome_map] at loop
  have hl := h.hdl
  have hk : ((hdl b).map fun x => (D.str x, D.bl true)).map (·.1) = (hdl b).map D.str := by rw [List.map_map]; rfl
  simp only [u_gap, cd_gap, g0_gap, g1_gap, lenG_0, lenG_1, lenG_2, lenG_3, lenG_4, lenG_5, lenG_6, lenG_7, lenG_8, lenG_9, lenG_10, lenG_11, lenG_12, lenG_13, lenG_14, slot_0, slot_s, bind_k, bind_e, ofO_k, resO_k, resO_e, tstO_k, tstO_e, tst_k, tst_e, then_n, then_r, then_e, out_n, out_r, out_e, ifO_t, ifO_f, ifR_t, ifR_f, ev_var, ev_lvar, ev_int, ev_str, ev_bl, ev_non, ev_gstr, ev_gint, ev_bin, ev_neg, ev_cmp, ev_and, ev_or, ev_not, ev_ite, ev_tup, ev_lst, ev_dnew, ev_dnewT, ev_idx, ev_dget, ev_get3, ev_sl0, ev_sl1, ev_sl2, ev_isi, ev_bif, ev_met, ev_xop, ev_call, ev_call0, ev_fcall, ev_callL, ev_lc, ev_lcD, evs_nil, evs_cons, evi_of, evi_rng1, evi_rng2, evi_rng3, evi_zip, evi_enum, ev_chain, run_set, run_setF, run_setG, run_par, run_unp, run_unp3, lst3_k, run_ret, run_retL, run_expr, run_doc, run_rse, run_ite, run_whl, run_loop, run_app, run_ext, run_put, run_kill, run_tryX, catch_r, catch_n, run_frzB, run_fap, run_pop, run_popx, runs_nil, runs_cons, wipe_n, wipe_c, add_i, sub_i, op_mul, op_mod, op_div, idx_l, idx_t, idx_c, lt_i, le_i, gt_i, ge_i, len_l, len_t, len_c, tup_l, tup_t, items_l, items_t, optI_i, sl_t, sl_l, optR_k, optO_k, lcT_t, lcT_f, lcV_k, lcV_e, noX_k, lcF_fun, dkR_k, lstO_k, as_name, as_tup2, isN_0, isN_s, freed_n, freed_r, freed_e, lcM_map, lcM_some, lcM_filt, List.set_cons_zero, List.set_cons_succ, Bool.not_true, Bool.not_false, List.length_cons, List.length_nil, List.length_map, Nat.reduceAdd, isiD, Option.bind_some, Option.map_some, e_all_heads h, lenG_ok (show b.length ≤ 100000 by have := h.few; omega), ev_cT, lc0, dict_hd, hk, lenG_ok (show (hdl b).length ≤ 100000 by omega), lc1, srt_gs ok h, loop]
  show outR (Out.then (Option.getD (Option.map _ (gp m b)) _) _) = _
  cases gp m b with
  | none => simp only [u_gap, cd_gap, g0_gap, g1_gap, lenG_0, lenG_1, lenG_2, lenG_3, lenG_4, lenG_5, lenG_6, lenG_7, lenG_8, lenG_9, lenG_10, lenG_11, lenG_12, lenG_13, lenG_14, slot_0, slot_s, bind_k, bind_e, ofO_k, resO_k, resO_e, tstO_k, tstO_e, tst_k, tst_e, then_n, then_r, then_e, out_n, out_r, out_e, ifO_t, ifO_f, ifR_t, ifR_f, ev_var, ev_lvar, ev_int, ev_str, ev_bl, ev_non, ev_gstr, ev_gint, ev_bin, ev_neg, ev_cmp, ev_and, ev_or, ev_not, ev_ite, ev_tup, ev_lst, ev_dnew, ev_dnewT, ev_idx, ev_dget, ev_get3, ev_sl0, ev_sl1, ev_sl2, ev_isi, ev_bif, ev_met, ev_xop, ev_call, ev_call0, ev_fcall, ev_callL, ev_lc, ev_lcD, evs_nil, evs_cons, evi_of, evi_rng1, evi_rng2, evi_rng3, evi_zip, evi_enum, ev_chain, run_set, run_setF, run_setG, run_par, run_unp, run_unp3, lst3_k, run_ret, run_retL, run_expr, run_doc, run_rse, run_ite, run_whl, run_loop, run_app, run_ext, run_put, run_kill, run_tryX, catch_r, catch_n, run_frzB, run_fap, run_pop, run_popx, runs_nil, runs_cons, wipe_n, wipe_c, add_i, sub_i, op_mul, op_mod, op_div, idx_l, idx_t, idx_c, lt_i, le_i, gt_i, ge_i, len_l, len_t, len_c, tup_l, tup_t, items_l, items_t, optI_i, sl_t, sl_l, optR_k, optO_k, lcT_t, lcT_f, lcV_k, lcV_e, noX_k, lcF_fun, dkR_k, lstO_k, as_name, as_tup2, isN_0, isN_s, freed_n, freed_r, freed_e, lcM_map, lcM_some, lcM_filt, List.set_cons_zero, List.set_cons_succ, Bool.not_true, Bool.not_false, List.length_cons, List.length_nil, List.length_map, Nat.reduceAdd, isiD, Option.bind_some, Option.map_some, Option.map_none, Option.getD_none, optS]
  | some p => simp only [u_gap, cd_gap, g0_gap, g1_gap, lenG_0, lenG_1, lenG_2, lenG_3, lenG_4, lenG_5, lenG_6, lenG_7, lenG_8, lenG_9, lenG_10, lenG_11, lenG_12, lenG_13, lenG_14, slot_0, slot_s, bind_k, bind_e, ofO_k, resO_k, resO_e, tstO_k, tstO_e, tst_k, tst_e, then_n, then_r, then_e, out_n, out_r, out_e, ifO_t, ifO_f, ifR_t, ifR_f, ev_var, ev_lvar, ev_int, ev_str, ev_bl, ev_non, ev_gstr, ev_gint, ev_bin, ev_neg, ev_cmp, ev_and, ev_or, ev_not, ev_ite, ev_tup, ev_lst, ev_dnew, ev_dnewT, ev_idx, ev_dget, ev_get3, ev_sl0, ev_sl1, ev_sl2, ev_isi, ev_bif, ev_met, ev_xop, ev_call, ev_call0, ev_fcall, ev_callL, ev_lc, ev_lcD, evs_nil, evs_cons, evi_of, evi_rng1, evi_rng2, evi_rng3, evi_zip, evi_enum, ev_chain, run_set, run_setF, run_setG, run_par, run_unp, run_unp3, lst3_k, run_ret, run_retL, run_expr, run_doc, run_rse, run_ite, run_whl, run_loop, run_app, run_ext, run_put, run_kill, run_tryX, catch_r, catch_n, run_frzB, run_fap, run_pop, run_popx, runs_nil, runs_cons, wipe_n, wipe_c, add_i, sub_i, op_mul, op_mod, op_div, idx_l, idx_t, idx_c, lt_i, le_i, gt_i, ge_i, len_l, len_t, len_c, tup_l, tup_t, items_l, items_t, optI_i, sl_t, sl_l, optR_k, optO_k, lcT_t, lcT_f, lcV_k, lcV_e, noX_k, lcF_fun, dkR_k, lstO_k, as_name, as_tup2, isN_0, isN_s, freed_n, freed_r, freed_e, lcM_map, lcM_some, lcM_filt, List.set_cons_zero, List.set_cons_succ, Bool.not_true, Bool.not_false, List.length_cons, List.length_nil, List.length_map, Nat.reduceAdd, isiD, Option.bind_some, Option.map_some, Option.map_some, Option.getD_some, optS]
end Pb
namespace Pb
open PySem PLq Bk
open L2 (atI ixN)
instance (m : Nat) (x : T) : Decidable (VT m x) := by unfold VT; infer_instance
def isPcs (m : Nat) (b : List T) : Bool := decide (1 ≤ b.length) && decide (b.length ≤ 32) && b.all (fun x => decide (VT m x) && decide (x ≠ [])) && (b.zip (b.drop 1)).all (fun p => decide (p.1 < p.2))
theorem isTxt_str (m : Nat) (x : T) : isTxt m (.str x) = decide (VT m x) := by
  by_cases h : VT m x
  · rw [vt_is h, decide_eq_true h]
  · rw [decide_eq_false h]
    cases e : isTxt m (.str x) with
    | true => exact absurd (is_vt e) h
    | false => rfl
theorem lt_str (x y : T) : cmpD .lt (.str x) (.str y) = some (.bl (decide (x < y))) := by
  show some (D.bl _) = _
  rfl
theorem e_are_pieces {m : Nat} {b : List T} (hm : m ≤ 4) (h : Sml b) (ok : OkB b) : f_are_pieces [nI m, bkD b] = .ok (.bl (isPcs m b)) := by
  have hl := h.few
  have lc0 := lcM_is (F := fun x : T => lcV (ev G_are_pieces C_are_pieces e0_are_pieces [some (nI m), some (bkD b), some (.str x), none])) (h := fun x : T => D.bl (decide (VT m x) && decide (x ≠ []))) (l := b) fun x hx => by
    have hx' := h.short x hx
    have it := e_is_text hm (.str x) (show x.length ≤ 100000 by omega)
    rw [isTxt_str] at it
    by_cases v : VT m x
    · by_cases z : x = []
      · subst z
        simp only [u_are_pieces, cd_are_pieces, g0_are_pieces, k0_are_pieces, lenG_0, lenG_1, lenG_2, lenG_3, lenG_4, lenG_5, lenG_6, lenG_7, lenG_8, lenG_9, lenG_10, lenG_11, lenG_12, lenG_13, lenG_14, slot_0, slot_s, bind_k, bind_e, ofO_k, resO_k, resO_e, tstO_k, tstO_e, tst_k, tst_e, then_n, then_r, then_e, out_n, out_r, out_e, ifO_t, ifO_f, ifR_t, ifR_f, ev_var, ev_lvar, ev_int, ev_str, ev_bl, ev_non, ev_gstr, ev_gint, ev_bin, ev_neg, ev_cmp, ev_and, ev_or, ev_not, ev_ite, ev_tup, ev_lst, ev_dnew, ev_dnewT, ev_idx, ev_dget, ev_get3, ev_sl0, ev_sl1, ev_sl2, ev_isi, ev_bif, ev_met, ev_xop, ev_call, ev_call0, ev_fcall, ev_callL, ev_lc, ev_lcD, evs_nil, evs_cons, evi_of, evi_rng1, evi_rng2, evi_rng3, evi_zip, evi_enum, ev_chain, run_set, run_setF, run_setG, run_par, run_unp, run_unp3, lst3_k, run_ret, run_retL, run_expr, run_doc, run_rse, run_ite, run_whl, run_loop, run_app, run_ext, run_put, run_kill, run_tryX, catch_r, catch_n, run_frzB, run_fap, run_pop, run_popx, runs_nil, runs_cons, wipe_n, wipe_c, add_i, sub_i, op_mul, op_mod, op_div, idx_l, idx_t, idx_c, lt_i, le_i, gt_i, ge_i, len_l, len_t, len_c, tup_l, tup_t, items_l, items_t, optI_i, sl_t, sl_l, optR_k, optO_k, lcT_t, lcT_f, lcV_k, lcV_e, noX_k, lcF_fun, dkR_k, lstO_k, as_name, as_tup2, isN_0, isN_s, freed_n, freed_r, freed_e, lcM_map, lcM_some, lcM_filt, List.set_cons_zero, List.set_cons_succ, Bool.not_true, Bool.not_false, List.length_cons, List.length_nil, List.length_map, Nat.reduceAdd, isiD, Option.bind_some, Option.map_some, e0_are_pieces, it, v, cne_str OkT.nil OkT.nil, decide_true, ne_eq, not_true_eq_false, decide_false, Bool.and_false]
      · simp only [u_are_pieces, cd_are_pieces, g0_are_pieces, k0_are_pieces, lenG_0, lenG_1, lenG_2, lenG_3, lenG_4, lenG_5, lenG_6, lenG_7, lenG_8, lenG_9, lenG_10, lenG_11, lenG_12, lenG_13, lenG_14, slot_0, slot_s, bind_k, bind_e, ofO_k, resO_k, resO_e, tstO_k, tstO_e, tst_k, tst_e, then_n, then_r, then_e, out_n, out_r, out_e, ifO_t, ifO_f, ifR_t, ifR_f, ev_var, ev_lvar, ev_int, ev_str, ev_bl, ev_non, ev_gstr, ev_gint, ev_bin, ev_neg, ev_cmp, ev_and, ev_or, ev_not, ev_ite, ev_tup, ev_lst, ev_dnew, ev_dnewT, ev_idx, ev_dget, ev_get3, ev_sl0, ev_sl1, ev_sl2, ev_isi, ev_bif, ev_met, ev_xop, ev_call, ev_call0, ev_fcall, ev_callL, ev_lc, ev_lcD, evs_nil, evs_cons, evi_of, evi_rng1, evi_rng2, evi_rng3, evi_zip, evi_enum, ev_chain, run_set, run_setF, run_setG, run_par, run_unp, run_unp3, lst3_k, run_ret, run_retL, run_expr, run_doc, run_rse, run_ite, run_whl, run_loop, run_app, run_ext, run_put, run_kill, run_tryX, catch_r, catch_n, run_frzB, run_fap, run_pop, run_popx, runs_nil, runs_cons, wipe_n, wipe_c, add_i, sub_i, op_mul, op_mod, op_div, idx_l, idx_t, idx_c, lt_i, le_i, gt_i, ge_i, len_l, len_t, len_c, tup_l, tup_t, items_l, items_t, optI_i, sl_t, sl_l, optR_k, optO_k, lcT_t, lcT_f, lcV_k, lcV_e, noX_k, lcF_fun, dkR_k, lstO_k, as_name, as_tup2, isN_0, isN_s, freed_n, freed_r, freed_e, lcM_map, lcM_some, lcM_filt, List.set_cons_zero, List.set_cons_succ, Bool.not_true, Bool.not_false, List.length_cons, List.length_nil, List.length_map, Nat.reduceAdd, isiD, Option.bind_some, Option.map_some, e0_are_pieces, it, v, z, cne_str (ok x hx) OkT.nil, decide_true, ne_eq, not_false_eq_true, decide_false, Bool.and_true]
    · simp only [u_are_pieces, cd_are_pieces, g0_are_pieces, k0_are_pieces, lenG_0, lenG_1, lenG_2, lenG_3, lenG_4, lenG_5, lenG_6, lenG_7, lenG_8, lenG_9, lenG_10, lenG_11, lenG_12, lenG_13, lenG_14, slot_0, slot_s, bind_k, bind_e, ofO_k, resO_k, resO_e, tstO_k, tstO_e, tst_k, tst_e, then_n, then_r, then_e, out_n, out_r, out_e, ifO_t, ifO_f, ifR_t, ifR_f, ev_var, ev_lvar, ev_int, ev_str, ev_bl, ev_non, ev_gstr, ev_gint, ev_bin, ev_neg, ev_cmp, ev_and, ev_or, ev_not, ev_ite, ev_tup, ev_lst, ev_dnew, ev_dnewT, ev_idx, ev_dget, ev_get3, ev_sl0, ev_sl1, ev_sl2, ev_isi, ev_bif, ev_met, ev_xop, ev_call, ev_call0, ev_fcall, ev_callL, ev_lc, ev_lcD, evs_nil, evs_cons, evi_of, evi_rng1, evi_rng2, evi_rng3, evi_zip, evi_enum, ev_chain, run_set, run_setF, run_setG, run_par, run_unp, run_unp3, lst3_k, run_ret, run_retL, run_expr, run_doc, run_rse, run_ite, run_whl, run_loop, run_app, run_ext, run_put, run_kill, run_tryX, catch_r, catch_n, run_frzB, run_fap, run_pop, run_popx, runs_nil, runs_cons, wipe_n, wipe_c, add_i, sub_i, op_mul, op_mod, op_div, idx_l, idx_t, idx_c, lt_i, le_i, gt_i, ge_i, len_l, len_t, len_c, tup_l, tup_t, items_l, items_t, optI_i, sl_t, sl_l, optR_k, optO_k, lcT_t, lcT_f, lcV_k, lcV_e, noX_k, lcF_fun, dkR_k, lstO_k, as_name, as_tup2, isN_0, isN_s, freed_n, freed_r, freed_e, lcM_map, lcM_some, lcM_filt, List.set_cons_zero, List.set_cons_succ, Bool.not_true, Bool.not_false, List.length_cons, List.length_nil, List.length_map, Nat.reduceAdd, isiD, Option.bind_some, Option.map_some, e0_are_pieces, it, v, decide_false, Bool.false_and]
  have lc1 := lcM_is (F := fun p : T × T => lcV (ev G_are_pieces C_are_pieces e1_are_pieces [some (nI m), some (bkD b), some (.str p.1), some (.str p.2)])) (h := fun p : T × T => D.bl (decide (p.1 < p.2))) (l := b.zip (b.drop 1)) fun p hp => by
    simp only [u_are_pieces, cd_are_pieces, g0_are_pieces, k0_are_pieces, lenG_0, lenG_1, lenG_2, lenG_3, lenG_4, lenG_5, lenG_6, lenG_7, lenG_8, lenG_9, lenG_10, lenG_11, lenG_12, lenG_13, lenG_14, slot_0, slot_s, bind_k, bind_e, ofO_k, resO_k, resO_e, tstO_k, tstO_e, tst_k, tst_e, then_n, then_r, then_e, out_n, out_r, out_e, ifO_t, ifO_f, ifR_t, ifR_f, ev_var, ev_lvar, ev_int, ev_str, ev_bl, ev_non, ev_gstr, ev_gint, ev_bin, ev_neg, ev_cmp, ev_and, ev_or, ev_not, ev_ite, ev_tup, ev_lst, ev_dnew, ev_dnewT, ev_idx, ev_dget, ev_get3, ev_sl0, ev_sl1, ev_sl2, ev_isi, ev_bif, ev_met, ev_xop, ev_call, ev_call0, ev_fcall, ev_callL, ev_lc, ev_lcD, evs_nil, evs_cons, evi_of, evi_rng1, evi_rng2, evi_rng3, evi_zip, evi_enum, ev_chain, run_set, run_setF, run_setG, run_par, run_unp, run_unp3, lst3_k, run_ret, run_retL, run_expr, run_doc, run_rse, run_ite, run_whl, run_loop, run_app, run_ext, run_put, run_kill, run_tryX, catch_r, catch_n, run_frzB, run_fap, run_pop, run_popx, runs_nil, runs_cons, wipe_n, wipe_c, add_i, sub_i, op_mul, op_mod, op_div, idx_l, idx_t, idx_c, lt_i, le_i, gt_i, ge_i, len_l, len_t, len_c, tup_l, tup_t, items_l, items_t, optI_i, sl_t, sl_l, optR_k, optO_k, lcT_t, lcT_f, lcV_k, lcV_e, noX_k, lcF_fun, dkR_k, lstO_k, as_name, as_tup2, isN_0, isN_s, freed_n, freed_r, freed_e, lcM_map, lcM_some, lcM_filt, List.set_cons_zero, List.set_cons_succ, Bool.not_true, Bool.not_false, List.length_cons, List.length_nil, List.length_map, Nat.reduceAdd, isiD, Option.bind_some, Option.map_some, e1_are_pieces, lt_str]
  have dr1 : slD (bkD b) (some 1) none = some (bkD (b.drop 1)) := by
    rw [sl_t]
    show some (D.tup (cutL (b.map D.str) (some ((1 : Nat) : Int)) none)) = _
    rw [cutL_lo, ← List.map_drop]
  have zl : (b.zip (b.drop 1)).length ≤ 100000 := by rw [List.length_zip, List.length_drop]; omega
  by_cases h1 : 1 ≤ b.length
  · by_cases h2 : b.length ≤ 32
    · have e1 : decide ((1 : Int) ≤ (b.length : Int)) = true := decide_eq_true (by omega)
      have e2 : decide ((b.length : Int) ≤ 32) = true := decide_eq_true (by omega)
      cases a : b.all (fun x => decide (VT m x) && decide (x ≠ [])) with
      | true =>
        simp only [u_are_pieces, cd_are_pieces, g0_are_pieces, k0_are_pieces, lenG_0, lenG_1, lenG_2, lenG_3, lenG_4, lenG_5, lenG_6, lenG_7, lenG_8, lenG_9, lenG_10, lenG_11, lenG_12, lenG_13, lenG_14, slot_0, slot_s, bind_k, bind_e, ofO_k, resO_k, resO_e, tstO_k, tstO_e, tst_k, tst_e, then_n, then_r, then_e, out_n, out_r, out_e, ifO_t, ifO_f, ifR_t, ifR_f, ev_var, ev_lvar, ev_int, ev_str, ev_bl, ev_non, ev_gstr, ev_gint, ev_bin, ev_neg, ev_cmp, ev_and, ev_or, ev_not, ev_ite, ev_tup, ev_lst, ev_dnew, ev_dnewT, ev_idx, ev_dget, ev_get3, ev_sl0, ev_sl1, ev_sl2, ev_isi, ev_bif, ev_met, ev_xop, ev_call, ev_call0, ev_fcall, ev_callL, ev_lc, ev_lcD, evs_nil, evs_cons, evi_of, evi_rng1, evi_rng2, evi_rng3, evi_zip, evi_enum, ev_chain, run_set, run_setF, run_setG, run_par, run_unp, run_unp3, lst3_k, run_ret, run_retL, run_expr, run_doc, run_rse, run_ite, run_whl, run_loop, run_app, run_ext, run_put, run_kill, run_tryX, catch_r, catch_n, run_frzB, run_fap, run_pop, run_popx, runs_nil, runs_cons, wipe_n, wipe_c, add_i, sub_i, op_mul, op_mod, op_div, idx_l, idx_t, idx_c, lt_i, le_i, gt_i, ge_i, len_l, len_t, len_c, tup_l, tup_t, items_l, items_t, optI_i, sl_t, sl_l, optR_k, optO_k, lcT_t, lcT_f, lcV_k, lcV_e, noX_k, lcF_fun, dkR_k, lstO_k, as_name, as_tup2, isN_0, isN_s, freed_n, freed_r, freed_e, lcM_map, lcM_some, lcM_filt, List.set_cons_zero, List.set_cons_succ, Bool.not_true, Bool.not_false, List.length_cons, List.length_nil, List.length_map, Nat.reduceAdd, isiD, Option.bind_some, Option.map_some, e1, e2, lenG_ok (show b.length ≤ 100000 by omega), ev_cT, lc0, all_bl, a, dr1, zip_t, lenG_ok zl, lc1, isPcs, h1, h2, decide_true, Bool.true_and]
      | false =>
        simp only [u_are_pieces, cd_are_pieces, g0_are_pieces, k0_are_pieces, lenG_0, lenG_1, lenG_2, lenG_3, lenG_4, lenG_5, lenG_6, lenG_7, lenG_8, lenG_9, lenG_10, lenG_11, lenG_12, lenG_13, lenG_14, slot_0, slot_s, bind_k, bind_e, ofO_k, resO_k, resO_e, tstO_k, tstO_e, tst_k, tst_e, then_n, then_r, then_e, out_n, out_r, out_e, ifO_t, ifO_f, ifR_t, ifR_f, ev_var, ev_lvar, ev_int, ev_str, ev_bl, ev_non, ev_gstr, ev_gint, ev_bin, ev_neg, ev_cmp, ev_and, ev_or, ev_not, ev_ite, ev_tup, ev_lst, ev_dnew, ev_dnewT, ev_idx, ev_dget, ev_get3, ev_sl0, ev_sl1, ev_sl2, ev_isi, ev_bif, ev_met, ev_xop, ev_call, ev_call0, ev_fcall, ev_callL, ev_lc, ev_lcD, evs_nil, evs_cons, evi_of, evi_rng1, evi_rng2, evi_rng3, evi_zip, evi_enum, ev_chain, run_set, run_setF, run_setG, run_par, run_unp, run_unp3, lst3_k, run_ret, run_retL, run_expr, run_doc, run_rse, run_ite, run_whl, run_loop, run_app, run_ext, run_put, run_kill, run_tryX, catch_r, catch_n, run_frzB, run_fap, run_pop, run_popx, runs_nil, runs_cons, wipe_n, wipe_c, add_i, sub_i, op_mul, op_mod, op_div, idx_l, idx_t, idx_c, lt_i, le_i, gt_i, ge_i, len_l, len_t, len_c, tup_l, tup_t, items_l, items_t, optI_i, sl_t, sl_l, optR_k, optO_k, lcT_t, lcT_f, lcV_k, lcV_e, noX_k, lcF_fun, dkR_k, lstO_k, as_name, as_tup2, isN_0, isN_s, freed_n, freed_r, freed_e, lcM_map, lcM_some, lcM_filt, List.set_cons_zero, List.set_cons_succ, Bool.not_true, Bool.not_false, List.length_cons, List.length_nil, List.length_map, Nat.reduceAdd, isiD, Option.bind_some, Option.map_some, e1, e2, lenG_ok (show b.length ≤ 100000 by omega), ev_cT, lc0, all_bl, a, isPcs, h1, h2, decide_true, Bool.true_and, Bool.false_and]
    · have e1 : decide ((1 : Int) ≤ (b.length : Int)) = true := decide_eq_true (by omega)
      have e2 : decide ((b.length : Int) ≤ 32) = false := decide_eq_false (by omega)
      simp only [u_are_pieces, cd_are_pieces, g0_are_pieces, k0_are_pieces, lenG_0, lenG_1, lenG_2, lenG_3, lenG_4, lenG_5, lenG_6, lenG_7, lenG_8, lenG_9, lenG_10, lenG_11, lenG_12, lenG_13, lenG_14, slot_0, slot_s, bind_k, bind_e, ofO_k, resO_k, resO_e, tstO_k, tstO_e, tst_k, tst_e, then_n, then_r, then_e, out_n, out_r, out_e, ifO_t, ifO_f, ifR_t, ifR_f, ev_var, ev_lvar, ev_int, ev_str, ev_bl, ev_non, ev_gstr, ev_gint, ev_bin, ev_neg, ev_cmp, ev_and, ev_or, ev_not, ev_ite, ev_tup, ev_lst, ev_dnew, ev_dnewT, ev_idx, ev_dget, ev_get3, ev_sl0, ev_sl1, ev_sl2, ev_isi, ev_bif, ev_met, ev_xop, ev_call, ev_call0, ev_fcall, ev_callL, ev_lc, ev_lcD, evs_nil, evs_cons, evi_of, evi_rng1, evi_rng2, evi_rng3, evi_zip, evi_enum, ev_chain, run_set, run_setF, run_setG, run_par, run_unp, run_unp3, lst3_k, run_ret, run_retL, run_expr, run_doc, run_rse, run_ite, run_whl, run_loop, run_app, run_ext, run_put, run_kill, run_tryX, catch_r, catch_n, run_frzB, run_fap, run_pop, run_popx, runs_nil, runs_cons, wipe_n, wipe_c, add_i, sub_i, op_mul, op_mod, op_div, idx_l, idx_t, idx_c, lt_i, le_i, gt_i, ge_i, len_l, len_t, len_c, tup_l, tup_t, items_l, items_t, optI_i, sl_t, sl_l, optR_k, optO_k, lcT_t, lcT_f, lcV_k, lcV_e, noX_k, lcF_fun, dkR_k, lstO_k, as_name, as_tup2, isN_0, isN_s, freed_n, freed_r, freed_e, lcM_map, lcM_some, lcM_filt, List.set_cons_zero, List.set_cons_succ, Bool.not_true, Bool.not_false, List.length_cons, List.length_nil, List.length_map, Nat.reduceAdd, isiD, Option.bind_some, Option.map_some, e1, e2, isPcs, h1, h2, decide_true, decide_false, Bool.true_and, Bool.false_and]
  · have e1 : decide ((1 : Int) ≤ (b.length : Int)) = false := decide_eq_false (by omega)
    simp only [u_are_pieces, cd_are_pieces, g0_are_pieces, k0_are_pieces, lenG_0, lenG_1, lenG_2, lenG_3, lenG_4, lenG_5, lenG_6, lenG_7, lenG_8, lenG_9, lenG_10, lenG_11, lenG_12, lenG_13, lenG_14, slot_0, slot_s, bind_k, bind_e, ofO_k, resO_k, resO_e, tstO_k, tstO_e, tst_k, tst_e, then_n, then_r, then_e, out_n, out_r, out_e, ifO_t, ifO_f, ifR_t, ifR_f, ev_var, ev_lvar, ev_int, ev_str, ev_bl, ev_non, ev_gstr, ev_gint, ev_bin, ev_neg, ev_cmp, ev_and, ev_or, ev_not, ev_ite, ev_tup, ev_lst, ev_dnew, ev_dnewT, ev_idx, ev_dget, ev_get3, ev_sl0, ev_sl1, ev_sl2, ev_isi, ev_bif, ev_met, ev_xop, ev_call, ev_call0, ev_fcall, ev_callL, ev_lc, ev_lcD, evs_nil, evs_cons, evi_of, evi_rng1, evi_rng2, evi_rng3, evi_zip, evi_enum, ev_chain, run_set, run_setF, run_setG, run_par, run_unp, run_unp3, lst3_k, run_ret, run_retL, run_expr, run_doc, run_rse, run_ite, run_whl, run_loop, run_app, run_ext, run_put, run_kill, run_tryX, catch_r, catch_n, run_frzB, run_fap, run_pop, run_popx, runs_nil, runs_cons, wipe_n, wipe_c, add_i, sub_i, op_mul, op_mod, op_div, idx_l, idx_t, idx_c, lt_i, le_i, gt_i, ge_i, len_l, len_t, len_c, tup_l, tup_t, items_l, items_t, optI_i, sl_t, sl_l, optR_k, optO_k, lcT_t, lcT_f, lcV_k, lcV_e, noX_k, lcF_fun, dkR_k, lstO_k, as_name, as_tup2, isN_0, isN_s, freed_n, freed_r, freed_e, lcM_map, lcM_some, lcM_filt, List.set_cons_zero, List.set_cons_succ, Bool.not_true, Bool.not_false, List.length_cons, List.length_nil, List.length_map, Nat.reduceAdd, isiD, Option.bind_some, Option.map_some, e1, isPcs, h1, decide_false, Bool.false_and]
def isB (m : Nat) (b : List T) : Bool := isPcs m b && (tw b).isNone && (gp m b).isNone
theorem num_ok {m : Nat} (h2 : 2 ≤ m) (h4 : m ≤ 4) : isNum (nI m) 2 4 = true := by
  show (decide ((2 : Int) ≤ (m : Int)) && decide ((m : Int) ≤ 4)) = true
  rw [decide_eq_true (by omega), decide_eq_true (by omega)]; rfl
theorem isN_optS (o : Option T) : isNonD (optS o) = o.isNone := by cases o <;> rfl
theorem isN_optP (o : Option (T × T)) : isNonD (optP o) = o.isNone := by cases o <;> rfl
theorem e_is_book {m : Nat} {b : List T} (h2 : 2 ≤ m) (h4 : m ≤ 4) (h : Sml b) (ok : OkB b) : f_is_book [nI m, bkD b] = .ok (.bl (isB m b)) := by
  cases a : isPcs m b with
  | true =>
    cases c : (tw b).isNone with
    | true => simp only [u_is_book, cd_is_book, g0_is_book, g1_is_book, g2_is_book, g3_is_book, lenG_0, lenG_1, lenG_2, lenG_3, lenG_4, lenG_5, lenG_6, lenG_7, lenG_8, lenG_9, lenG_10, lenG_11, lenG_12, lenG_13, lenG_14, slot_0, slot_s, bind_k, bind_e, ofO_k, resO_k, resO_e, tstO_k, tstO_e, tst_k, tst_e, then_n, then_r, then_e, out_n, out_r, out_e, ifO_t, ifO_f, ifR_t, ifR_f, ev_var, ev_lvar, ev_int, ev_str, ev_bl, ev_non, ev_gstr, ev_gint, ev_bin, ev_neg, ev_cmp, ev_and, ev_or, ev_not, ev_ite, ev_tup, ev_lst, ev_dnew, ev_dnewT, ev_idx, ev_dget, ev_get3, ev_sl0, ev_sl1, ev_sl2, ev_isi, ev_bif, ev_met, ev_xop, ev_call, ev_call0, ev_fcall, ev_callL, ev_lc, ev_lcD, evs_nil, evs_cons, evi_of, evi_rng1, evi_rng2, evi_rng3, evi_zip, evi_enum, ev_chain, run_set, run_setF, run_setG, run_par, run_unp, run_unp3, lst3_k, run_ret, run_retL, run_expr, run_doc, run_rse, run_ite, run_whl, run_loop, run_app, run_ext, run_put, run_kill, run_tryX, catch_r, catch_n, run_frzB, run_fap, run_pop, run_popx, runs_nil, runs_cons, wipe_n, wipe_c, add_i, sub_i, op_mul, op_mod, op_div, idx_l, idx_t, idx_c, lt_i, le_i, gt_i, ge_i, len_l, len_t, len_c, tup_l, tup_t, items_l, items_t, optI_i, sl_t, sl_l, optR_k, optO_k, lcT_t, lcT_f, lcV_k, lcV_e, noX_k, lcF_fun, dkR_k, lstO_k, as_name, as_tup2, isN_0, isN_s, freed_n, freed_r, freed_e, lcM_map, lcM_some, lcM_filt, List.set_cons_zero, List.set_cons_succ, Bool.not_true, Bool.not_false, List.length_cons, List.length_nil, List.length_map, Nat.reduceAdd, isiD, Option.bind_some, Option.map_some, e_is_number, num_ok h2 h4, e_are_pieces h4 h ok, a, e_twice h ok, is_non, isN_optP, c, e_gap h4 h ok, isN_optS, isB, Bool.true_and]
    | false => simp only [u_is_book, cd_is_book, g0_is_book, g1_is_book, g2_is_book, g3_is_book, lenG_0, lenG_1, lenG_2, lenG_3, lenG_4, lenG_5, lenG_6, lenG_7, lenG_8, lenG_9, lenG_10, lenG_11, lenG_12, lenG_13, lenG_14, slot_0, slot_s, bind_k, bind_e, ofO_k, resO_k, resO_e, tstO_k, tstO_e, tst_k, tst_e, then_n, then_r, then_e, out_n, out_r, out_e, ifO_t, ifO_f, ifR_t, ifR_f, ev_var, ev_lvar, ev_int, ev_str, ev_bl, ev_non, ev_gstr, ev_gint, ev_bin, ev_neg, ev_cmp, ev_and, ev_or, ev_not, ev_ite, ev_tup, ev_lst, ev_dnew, ev_dnewT, ev_idx, ev_dget, ev_get3, ev_sl0, ev_sl1, ev_sl2, ev_isi, ev_bif, ev_met, ev_xop, ev_call, ev_call0, ev_fcall, ev_callL, ev_lc, ev_lcD, evs_nil, evs_cons, evi_of, evi_rng1, evi_rng2, evi_rng3, evi_zip, evi_enum, ev_chain, run_set, run_setF, run_setG, run_par, run_unp, run_unp3, lst3_k, run_ret, run_retL, run_expr, run_doc, run_rse, run_ite, run_whl, run_loop, run_app, run_ext, run_put, run_kill, run_tryX, catch_r, catch_n, run_frzB, run_fap, run_pop, run_popx, runs_nil, runs_cons, wipe_n, wipe_c, add_i, sub_i, op_mul, op_mod, op_div, idx_l, idx_t, idx_c, lt_i, le_i, gt_i, ge_i, len_l, len_t, len_c, tup_l, tup_t, items_l, items_t, optI_i, sl_t, sl_l, optR_k, optO_k, lcT_t, lcT_f, lcV_k, lcV_e, noX_k, lcF_fun, dkR_k, lstO_k, as_name, as_tup2, isN_0, isN_s, freed_n, freed_r, freed_e, lcM_map, lcM_some, lcM_filt, List.set_cons_zero, List.set_cons_succ, Bool.not_true, Bool.not_false, List.length_cons, List.length_nil, List.length_map, Nat.reduceAdd, isiD, Option.bind_some, Option.map_some, e_is_number, num_ok h2 h4, e_are_pieces h4 h ok, a, e_twice h ok, is_non, isN_optP, c, isB, Bool.true_and, Bool.false_and]
  | false => simp only [u_is_book, cd_is_book, g0_is_book, g1_is_book, g2_is_book, g3_is_book, lenG_0, lenG_1, lenG_2, lenG_3, lenG_4, lenG_5, lenG_6, lenG_7, lenG_8, lenG_9, lenG_10, lenG_11, lenG_12, lenG_13, lenG_14, slot_0, slot_s, bind_k, bind_e, ofO_k, resO_k, resO_e, tstO_k, tstO_e, tst_k, tst_e, then_n, then_r, then_e, out_n, out_r, out_e, ifO_t, ifO_f, ifR_t, ifR_f, ev_var, ev_lvar, ev_int, ev_str, ev_bl, ev_non, ev_gstr, ev_gint, ev_bin, ev_neg, ev_cmp, ev_and, ev_or, ev_not, ev_ite, ev_tup, ev_lst, ev_dnew, ev_dnewT, ev_idx, ev_dget, ev_get3, ev_sl0, ev_sl1, ev_sl2, ev_isi, ev_bif, ev_met, ev_xop, ev_call, ev_call0, ev_fcall, ev_callL, ev_lc, ev_lcD, evs_nil, evs_cons, evi_of, evi_rng1, evi_rng2, evi_rng3, evi_zip, evi_enum, ev_chain, run_set, run_setF, run_setG, run_par, run_unp, run_unp3, lst3_k, run_ret, run_retL, run_expr, run_doc, run_rse, run_ite, run_whl, run_loop, run_app, run_ext, run_put, run_kill, run_tryX, catch_r, catch_n, run_frzB, run_fap, run_pop, run_popx, runs_nil, runs_cons, wipe_n, wipe_c, add_i, sub_i, op_mul, op_mod, op_div, idx_l, idx_t, idx_c, lt_i, le_i, gt_i, ge_i, len_l, len_t, len_c, tup_l, tup_t, items_l, items_t, optI_i, sl_t, sl_l, optR_k, optO_k, lcT_t, lcT_f, lcV_k, lcV_e, noX_k, lcF_fun, dkR_k, lstO_k, as_name, as_tup2, isN_0, isN_s, freed_n, freed_r, freed_e, lcM_map, lcM_some, lcM_filt, List.set_cons_zero, List.set_cons_succ, Bool.not_true, Bool.not_false, List.length_cons, List.length_nil, List.length_map, Nat.reduceAdd, isiD, Option.bind_some, Option.map_some, e_is_number, num_ok h2 h4, e_are_pieces h4 h ok, a, isB, Bool.false_and]
theorem zip_srt : ∀ {b : List T}, (b.zip (b.drop 1)).all (fun p => decide (p.1 < p.2)) = true → Srt b
  | [], _ => List.Pairwise.nil
  | [x], _ => List.pairwise_singleton _ _
  | x :: y :: l, h => by
    simp only [List.drop_succ_cons, List.drop_zero, List.zip_cons_cons, List.all_cons, Bool.and_eq_true, decide_eq_true_eq] at h
    have ih := zip_srt (b := y :: l) (by simp only [List.drop_succ_cons, List.drop_zero]; exact h.2)
    refine List.pairwise_cons.mpr ⟨fun z hz => ?_, ih⟩
    rcases List.mem_cons.mp hz with rfl | hz
    · exact h.1
    · exact lt_tr h.1 ((List.pairwise_cons.mp ih).1 z hz)
theorem srt_zip : ∀ {b : List T}, Srt b → (b.zip (b.drop 1)).all (fun p => decide (p.1 < p.2)) = true
  | [], _ => rfl
  | [x], _ => rfl
  | x :: y :: l, h => by
    have h1 := List.pairwise_cons.mp h
    have ih := srt_zip (b := y :: l) h1.2
    simp only [List.drop_succ_cons, List.drop_zero, List.zip_cons_cons, List.all_cons, Bool.and_eq_true, decide_eq_true_eq] at ih ⊢
    exact ⟨h1.1 y List.mem_cons_self, ih⟩
structure Pcs (m : Nat) (b : List T) : Prop where
  one : 1 ≤ b.length
  few : b.length ≤ 32
  vt : ∀ p ∈ b, VT m p
  ne : [] ∉ b
  srt : Srt b
theorem pcs_iff {m : Nat} {b : List T} : isPcs m b = true ↔ Pcs m b := by
  unfold isPcs
  simp only [Bool.and_eq_true, decide_eq_true_eq, List.all_eq_true]
  constructor
  · rintro ⟨⟨⟨h1, h2⟩, h3⟩, h4⟩
    exact ⟨h1, h2, fun p hp => (h3 p hp).1, fun h => (h3 [] h).2 rfl, zip_srt (by simpa using h4)⟩
  · intro h
    exact ⟨⟨⟨h.one, h.few⟩, fun p hp => ⟨h.vt p hp, fun e => h.ne (e ▸ hp)⟩⟩, by simpa using srt_zip h.srt⟩
theorem tw_none {b : List T} : tw b = none ↔ ∀ p ∈ b, ¬ Hd b p := by
  unfold tw
  rw [List.findSome?_eq_none_iff]
  refine forall_congr' fun p => imp_congr_right fun hp => ?_
  rw [← hdl_mem]
  split <;> simp [*]
theorem gp_none {m : Nat} {b : List T} : gp m b = none ↔ ∀ x, Hd b x → ∀ c ∈ lets m, Hd b (x ++ [c]) ∨ x ++ [c] ∈ b := by
  unfold gp
  simp only [List.findSome?_eq_none_iff, gs_mem, ite_eq_right_iff, reduceCtorEq, imp_false, not_and, Classical.not_not, hdl_mem]
  refine forall_congr' fun x => imp_congr_right fun _ => forall_congr' fun c => imp_congr_right fun _ => ?_
  constructor
  · intro h
    by_cases q : Hd b (x ++ [c])
    · exact .inl q
    · exact .inr (h q)
  · rintro (h | h) q
    · exact absurd h q
    · exact h
theorem isB_iff {m : Nat} {b : List T} (h2 : 2 ≤ m) (h4 : m ≤ 4) : isB m b = true ↔ BK m b ∧ b.length ≤ 32 := by
  unfold isB
  simp only [Bool.and_eq_true, Option.isNone_iff_eq_none, pcs_iff, tw_none, gp_none]
  constructor
  · rintro ⟨⟨P, t⟩, g⟩
    refine ⟨⟨h2, h4, P.srt, P.vt, P.ne, fun p hp q hq k => ?_, fun x v => ?_⟩, P.few⟩
    · by_cases e : p = q
      · exact e
      · exact absurd ⟨q, hq, k, e⟩ (t p hp)
    · have : ∀ (n : Nat) (x : T), x.length = n → VT m x → (∃ p ∈ b, p <+: x) ∨ Hd b x := by
        intro n
        induction n with
        | zero =>
          intro x e _
          have : x = [] := List.eq_nil_of_length_eq_zero e
          subst this
          obtain ⟨p, hp⟩ := List.exists_mem_of_length_pos (show 0 < b.length from P.one)
          exact .inr ⟨p, hp, List.nil_prefix, fun e => P.ne (e ▸ hp)⟩
        | succ n ih =>
          intro x e v
          have hx : x ≠ [] := fun z => by subst z; cases e
          obtain ⟨y, c, rfl⟩ : ∃ y c, x = y ++ [c] := ⟨x.dropLast, x.getLast hx, (List.dropLast_concat_getLast hx).symm⟩
          rcases ih y (by simpa using e) v.left with ⟨p, hp, k⟩ | k
          · exact .inl ⟨p, hp, k.trans (List.prefix_append _ _)⟩
          · rcases g y k c (v c (by simp)) with q | q
            · exact .inr q
            · exact .inl ⟨_, q, List.prefix_refl _⟩
      exact this _ x rfl v
  · rintro ⟨B, hl⟩
    refine ⟨⟨⟨List.length_pos_iff.mpr B.ne_nil, hl, B.vt, B.ne, B.srt⟩, fun p hp h => B.hd_not_mem h hp⟩, fun x hx c hc => ?_⟩
    exact (B.next hx hc).symm
theorem bk_sml {m : Nat} {b : List T} (B : BK m b) (hl : b.length ≤ 300) : Sml b := ⟨hl, fun p hp => by have := B.len_lt p hp; omega⟩
theorem is_bk {m : Nat} {b : List T} (B : BK m b) (hl : b.length ≤ 32) : f_is_book [nI m, bkD b] = .ok (.bl true) := by
  rw [e_is_book B.two B.four (bk_sml B (by omega)) (bk_ok B), (isB_iff B.two B.four).mpr ⟨B, hl⟩]
theorem need_bk {m : Nat} {b : List T} (B : BK m b) (hl : b.length ≤ 32) : f_need_book [nI m, bkD b] = .ok .non := by
  simp only [u_need_book, cd_need_book, g0_need_book, lenG_0, lenG_1, lenG_2, lenG_3, lenG_4, lenG_5, lenG_6, lenG_7, lenG_8, lenG_9, lenG_10, lenG_11, lenG_12, lenG_13, lenG_14, slot_0, slot_s, bind_k, bind_e, ofO_k, resO_k, resO_e, tstO_k, tstO_e, tst_k, tst_e, then_n, then_r, then_e, out_n, out_r, out_e, ifO_t, ifO_f, ifR_t, ifR_f, ev_var, ev_lvar, ev_int, ev_str, ev_bl, ev_non, ev_gstr, ev_gint, ev_bin, ev_neg, ev_cmp, ev_and, ev_or, ev_not, ev_ite, ev_tup, ev_lst, ev_dnew, ev_dnewT, ev_idx, ev_dget, ev_get3, ev_sl0, ev_sl1, ev_sl2, ev_isi, ev_bif, ev_met, ev_xop, ev_call, ev_call0, ev_fcall, ev_callL, ev_lc, ev_lcD, evs_nil, evs_cons, evi_of, evi_rng1, evi_rng2, evi_rng3, evi_zip, evi_enum, ev_chain, run_set, run_setF, run_setG, run_par, run_unp, run_unp3, lst3_k, run_ret, run_retL, run_expr, run_doc, run_rse, run_ite, run_whl, run_loop, run_app, run_ext, run_put, run_kill, run_tryX, catch_r, catch_n, run_frzB, run_fap, run_pop, run_popx, runs_nil, runs_cons, wipe_n, wipe_c, add_i, sub_i, op_mul, op_mod, op_div, idx_l, idx_t, idx_c, lt_i, le_i, gt_i, ge_i, len_l, len_t, len_c, tup_l, tup_t, items_l, items_t, optI_i, sl_t, sl_l, optR_k, optO_k, lcT_t, lcT_f, lcV_k, lcV_e, noX_k, lcF_fun, dkR_k, lstO_k, as_name, as_tup2, isN_0, isN_s, freed_n, freed_r, freed_e, lcM_map, lcM_some, lcM_filt, List.set_cons_zero, List.set_cons_succ, Bool.not_true, Bool.not_false, List.length_cons, List.length_nil, List.length_map, Nat.reduceAdd, isiD, Option.bind_some, Option.map_some, is_bk B hl]
end Pb
namespace Pb
open PySem PLq Bk
open L2 (atI ixN)
theorem lsD_app (a b : List T) : lsD (a ++ b) = .lst (a.map D.str ++ b.map D.str) := by unfold lsD; rw [List.map_append]
theorem nxt_find {b : List T} {x : T} : ∀ (n k : Nat), (List.range' k n).findSome? (fun k => if x.take k ∈ b then some (x.take k) else none) = nxtFrom b x n k
  | 0, _ => rfl
  | n + 1, k => by
    rw [List.range'_succ, List.findSome?_cons, nxt_find n (k + 1)]
    unfold nxtFrom
    by_cases h : x.take k ∈ b
    · simp only [if_pos h]
    · simp only [if_neg h]
      cases n <;> rfl
theorem e_next_piece {b : List T} {x : T} (hx : x.length ≤ 100000) : f_next_piece [bkD b, .str x] = .ok (optS (nxt b x)) := by
  have loop := for_first (tg := .name 2) (b := runs G_next_piece C_next_piece b0_next_piece) nI [some (bkD b), some (.str x), none] (fun k => (if x.take k ∈ b then some (x.take k) else none).map fun x => Out.ret (.str x))
    (by
      intro a o q ρ2 e
      subst e
      split at q <;> simp at q) (List.range' 1 x.length) (by
    intro k hk
    refine ⟨_, rfl, ?_⟩
    by_cases m : x.take k ∈ b
    · simp only [u_next_piece, cd_next_piece, lenG_0, lenG_1, lenG_2, lenG_3, lenG_4, lenG_5, lenG_6, lenG_7, lenG_8, lenG_9, lenG_10, lenG_11, lenG_12, lenG_13, lenG_14, slot_0, slot_s, bind_k, bind_e, ofO_k, resO_k, resO_e, tstO_k, tstO_e, tst_k, tst_e, then_n, then_r, then_e, out_n, out_r, out_e, ifO_t, ifO_f, ifR_t, ifR_f, ev_var, ev_lvar, ev_int, ev_str, ev_bl, ev_non, ev_gstr, ev_gint, ev_bin, ev_neg, ev_cmp, ev_and, ev_or, ev_not, ev_ite, ev_tup, ev_lst, ev_dnew, ev_dnewT, ev_idx, ev_dget, ev_get3, ev_sl0, ev_sl1, ev_sl2, ev_isi, ev_bif, ev_met, ev_xop, ev_call, ev_call0, ev_fcall, ev_callL, ev_lc, ev_lcD, evs_nil, evs_cons, evi_of, evi_rng1, evi_rng2, evi_rng3, evi_zip, evi_enum, ev_chain, run_set, run_setF, run_setG, run_par, run_unp, run_unp3, lst3_k, run_ret, run_retL, run_expr, run_doc, run_rse, run_ite, run_whl, run_loop, run_app, run_ext, run_put, run_kill, run_tryX, catch_r, catch_n, run_frzB, run_fap, run_pop, run_popx, runs_nil, runs_cons, wipe_n, wipe_c, add_i, sub_i, op_mul, op_mod, op_div, idx_l, idx_t, idx_c, lt_i, le_i, gt_i, ge_i, len_l, len_t, len_c, tup_l, tup_t, items_l, items_t, optI_i, sl_t, sl_l, optR_k, optO_k, lcT_t, lcT_f, lcV_k, lcV_e, noX_k, lcF_fun, dkR_k, lstO_k, as_name, as_tup2, isN_0, isN_s, freed_n, freed_r, freed_e, lcM_map, lcM_some, lcM_filt, List.set_cons_zero, List.set_cons_succ, Bool.not_true, Bool.not_false, List.length_cons, List.length_nil, List.length_map, Nat.reduceAdd, isiD, Option.bind_some, Option.map_some, b0_next_piece, sls_hi k hx, in_bk, m, decide_true, if_true, Option.getD_some]
    · simp only [u_next_piece, cd_next_piece, lenG_0, lenG_1, lenG_2, lenG_3, lenG_4, lenG_5, lenG_6, lenG_7, lenG_8, lenG_9, lenG_10, lenG_11, lenG_12, lenG_13, lenG_14, slot_0, slot_s, bind_k, bind_e, ofO_k, resO_k, resO_e, tstO_k, tstO_e, tst_k, tst_e, then_n, then_r, then_e, out_n, out_r, out_e, ifO_t, ifO_f, ifR_t, ifR_f, ev_var, ev_lvar, ev_int, ev_str, ev_bl, ev_non, ev_gstr, ev_gint, ev_bin, ev_neg, ev_cmp, ev_and, ev_or, ev_not, ev_ite, ev_tup, ev_lst, ev_dnew, ev_dnewT, ev_idx, ev_dget, ev_get3, ev_sl0, ev_sl1, ev_sl2, ev_isi, ev_bif, ev_met, ev_xop, ev_call, ev_call0, ev_fcall, ev_callL, ev_lc, ev_lcD, evs_nil, evs_cons, evi_of, evi_rng1, evi_rng2, evi_rng3, evi_zip, evi_enum, ev_chain, run_set, run_setF, run_setG, run_par, run_unp, run_unp3, lst3_k, run_ret, run_retL, run_expr, run_doc, run_rse, run_ite, run_whl, run_loop, run_app, run_ext, run_put, run_kill, run_tryX, catch_r, catch_n, run_frzB, run_fap, run_pop, run_popx, runs_nil, runs_cons, wipe_n, wipe_c, add_i, sub_i, op_mul, op_mod, op_div, idx_l, idx_t, idx_c, lt_i, le_i, gt_i, ge_i, len_l, len_t, len_c, tup_l, tup_t, items_l, items_t, optI_i, sl_t, sl_l, optR_k, optO_k, lcT_t, lcT_f, lcV_k, lcV_e, noX_k, lcF_fun, dkR_k, lstO_k, as_name, as_tup2, isN_0, isN_s, freed_n, freed_r, freed_e, lcM_map, lcM_some, lcM_filt, List.set_cons_zero, List.set_cons_succ, Bool.not_true, Bool.not_false, List.length_cons, List.length_nil, List.length_map, Nat.reduceAdd, isiD, Option.bind_some, Option.map_some, b0_next_piece, sls_hi k hx, in_bk, m, decide_false, if_false, Option.map_none, Option.getD_none])
  rw [findSome_map, nxt_find] at loop
  have r : rng2D (.int 1) (.int ((x.length : Int) + 1)) = some ((List.range' 1 x.length).map fun i : Nat => nI i) := by
    have := rng2_nat 1 (x.length + 1) (by decide) (by omega)
    rw [show x.length + 1 - 1 = x.length by omega] at this
    exact this
  have e : nxtFrom b x x.length 1 = nxt b x := rfl
  rw [e] at loop
  cases q : nxt b x with
  | none =>
    rw [q] at loop
    simp only [u_next_piece, cd_next_piece, lenG_0, lenG_1, lenG_2, lenG_3, lenG_4, lenG_5, lenG_6, lenG_7, lenG_8, lenG_9, lenG_10, lenG_11, lenG_12, lenG_13, lenG_14, slot_0, slot_s, bind_k, bind_e, ofO_k, resO_k, resO_e, tstO_k, tstO_e, tst_k, tst_e, then_n, then_r, then_e, out_n, out_r, out_e, ifO_t, ifO_f, ifR_t, ifR_f, ev_var, ev_lvar, ev_int, ev_str, ev_bl, ev_non, ev_gstr, ev_gint, ev_bin, ev_neg, ev_cmp, ev_and, ev_or, ev_not, ev_ite, ev_tup, ev_lst, ev_dnew, ev_dnewT, ev_idx, ev_dget, ev_get3, ev_sl0, ev_sl1, ev_sl2, ev_isi, ev_bif, ev_met, ev_xop, ev_call, ev_call0, ev_fcall, ev_callL, ev_lc, ev_lcD, evs_nil, evs_cons, evi_of, evi_rng1, evi_rng2, evi_rng3, evi_zip, evi_enum, ev_chain, run_set, run_setF, run_setG, run_par, run_unp, run_unp3, lst3_k, run_ret, run_retL, run_expr, run_doc, run_rse, run_ite, run_whl, run_loop, run_app, run_ext, run_put, run_kill, run_tryX, catch_r, catch_n, run_frzB, run_fap, run_pop, run_popx, runs_nil, runs_cons, wipe_n, wipe_c, add_i, sub_i, op_mul, op_mod, op_div, idx_l, idx_t, idx_c, lt_i, le_i, gt_i, ge_i, len_l, len_t, len_c, tup_l, tup_t, items_l, items_t, optI_i, sl_t, sl_l, optR_k, optO_k, lcT_t, lcT_f, lcV_k, lcV_e, noX_k, lcF_fun, dkR_k, lstO_k, as_name, as_tup2, isN_0, isN_s, freed_n, freed_r, freed_e, lcM_map, lcM_some, lcM_filt, List.set_cons_zero, List.set_cons_succ, Bool.not_true, Bool.not_false, List.length_cons, List.length_nil, List.length_map, Nat.reduceAdd, isiD, Option.bind_some, Option.map_some, len_s hx, r, loop, Option.map_none, Option.getD_none, optS]
  | some p =>
    rw [q] at loop
    simp only [u_next_piece, cd_next_piece, lenG_0, lenG_1, lenG_2, lenG_3, lenG_4, lenG_5, lenG_6, lenG_7, lenG_8, lenG_9, lenG_10, lenG_11, lenG_12, lenG_13, lenG_14, slot_0, slot_s, bind_k, bind_e, ofO_k, resO_k, resO_e, tstO_k, tstO_e, tst_k, tst_e, then_n, then_r, then_e, out_n, out_r, out_e, ifO_t, ifO_f, ifR_t, ifR_f, ev_var, ev_lvar, ev_int, ev_str, ev_bl, ev_non, ev_gstr, ev_gint, ev_bin, ev_neg, ev_cmp, ev_and, ev_or, ev_not, ev_ite, ev_tup, ev_lst, ev_dnew, ev_dnewT, ev_idx, ev_dget, ev_get3, ev_sl0, ev_sl1, ev_sl2, ev_isi, ev_bif, ev_met, ev_xop, ev_call, ev_call0, ev_fcall, ev_callL, ev_lc, ev_lcD, evs_nil, evs_cons, evi_of, evi_rng1, evi_rng2, evi_rng3, evi_zip, evi_enum, ev_chain, run_set, run_setF, run_setG, run_par, run_unp, run_unp3, lst3_k, run_ret, run_retL, run_expr, run_doc, run_rse, run_ite, run_whl, run_loop, run_app, run_ext, run_put, run_kill, run_tryX, catch_r, catch_n, run_frzB, run_fap, run_pop, run_popx, runs_nil, runs_cons, wipe_n, wipe_c, add_i, sub_i, op_mul, op_mod, op_div, idx_l, idx_t, idx_c, lt_i, le_i, gt_i, ge_i, len_l, len_t, len_c, tup_l, tup_t, items_l, items_t, optI_i, sl_t, sl_l, optR_k, optO_k, lcT_t, lcT_f, lcV_k, lcV_e, noX_k, lcF_fun, dkR_k, lstO_k, as_name, as_tup2, isN_0, isN_s, freed_n, freed_r, freed_e, lcM_map, lcM_some, lcM_filt, List.set_cons_zero, List.set_cons_succ, Bool.not_true, Bool.not_false, List.length_cons, List.length_nil, List.length_map, Nat.reduceAdd, isiD, Option.bind_some, Option.map_some, len_s hx, r, loop, Option.map_some, Option.getD_some, optS]
theorem optS_s (x : T) : optS (some x) = .str x := Eq.trans rfl rfl
theorem isn_optS (o : Option T) : cmpD .isn (optS o) .non = some (.bl (!o.isNone)) := by rw [isn_non, isN_optS]
theorem cut_loop {m : Nat} {b : List T} (B : BK m b) : ∀ (n : Nat) (x : T) (ps : List T), x.length = n → VT m x → ps.length + x.length ≤ 100000 →
    whileR (ev G_cut C_cut t0_cut) (runs G_cut C_cut b1_cut) [some (nI m), some (bkD b), some (.str x), some (lsD ps), some (optS (nxt b x))] = .nx [some (nI m), some (bkD b), some (.str (cut b x).2), some (lsD (ps ++ (cut b x).1)), some .non] := by
  intro n
  induction n using Nat.strongRecOn with
  | ind n ih =>
    intro x ps e v hl
    cases q : nxt b x with
    | none =>
      rw [while_end (by simp only [u_cut, cd_cut, g0_cut, g1_cut, g2_cut, lenG_0, lenG_1, lenG_2, lenG_3, lenG_4, lenG_5, lenG_6, lenG_7, lenG_8, lenG_9, lenG_10, lenG_11, lenG_12, lenG_13, lenG_14, slot_0, slot_s, bind_k, bind_e, ofO_k, resO_k, resO_e, tstO_k, tstO_e, tst_k, tst_e, then_n, then_r, then_e, out_n, out_r, out_e, ifO_t, ifO_f, ifR_t, ifR_f, ev_var, ev_lvar, ev_int, ev_str, ev_bl, ev_non, ev_gstr, ev_gint, ev_bin, ev_neg, ev_cmp, ev_and, ev_or, ev_not, ev_ite, ev_tup, ev_lst, ev_dnew, ev_dnewT, ev_idx, ev_dget, ev_get3, ev_sl0, ev_sl1, ev_sl2, ev_isi, ev_bif, ev_met, ev_xop, ev_call, ev_call0, ev_fcall, ev_callL, ev_lc, ev_lcD, evs_nil, evs_cons, evi_of, evi_rng1, evi_rng2, evi_rng3, evi_zip, evi_enum, ev_chain, run_set, run_setF, run_setG, run_par, run_unp, run_unp3, lst3_k, run_ret, run_retL, run_expr, run_doc, run_rse, run_ite, run_whl, run_loop, run_app, run_ext, run_put, run_kill, run_tryX, catch_r, catch_n, run_frzB, run_fap, run_pop, run_popx, runs_nil, runs_cons, wipe_n, wipe_c, add_i, sub_i, op_mul, op_mod, op_div, idx_l, idx_t, idx_c, lt_i, le_i, gt_i, ge_i, len_l, len_t, len_c, tup_l, tup_t, items_l, items_t, optI_i, sl_t, sl_l, optR_k, optO_k, lcT_t, lcT_f, lcV_k, lcV_e, noX_k, lcF_fun, dkR_k, lstO_k, as_name, as_tup2, isN_0, isN_s, freed_n, freed_r, freed_e, lcM_map, lcM_some, lcM_filt, List.set_cons_zero, List.set_cons_succ, Bool.not_true, Bool.not_false, List.length_cons, List.length_nil, List.length_map, Nat.reduceAdd, isiD, Option.bind_some, Option.map_some, t0_cut, isn_optS, Option.isNone_none])]
      unfold cut
      rw [cutF_none q]
      simp [optS]
    | some p =>
      have hp := nxt_some' q
      have hpos := B.nxt_pos q
      have hpl := hp.2.length_le
      have ad : ∀ o, lenO (ps.length + 1) o = o := fun o => lenO_ok (by omega)
      rw [while_go (ρ2 := [some (nI m), some (bkD b), some (.str (x.drop p.length)), some (lsD (ps ++ [p])), some (optS (nxt b (x.drop p.length)))])]
      · have hd : (x.drop p.length).length = x.length - p.length := List.length_drop
        have vd : VT m (x.drop p.length) := fun c hc => v c (List.mem_of_mem_drop hc)
        rw [ih (x.drop p.length).length (by omega) _ (ps ++ [p]) rfl vd (by rw [List.length_append, List.length_singleton]; omega), B.cut_step q v]
        simp
      · simp only [u_cut, cd_cut, g0_cut, g1_cut, g2_cut, lenG_0, lenG_1, lenG_2, lenG_3, lenG_4, lenG_5, lenG_6, lenG_7, lenG_8, lenG_9, lenG_10, lenG_11, lenG_12, lenG_13, lenG_14, slot_0, slot_s, bind_k, bind_e, ofO_k, resO_k, resO_e, tstO_k, tstO_e, tst_k, tst_e, then_n, then_r, then_e, out_n, out_r, out_e, ifO_t, ifO_f, ifR_t, ifR_f, ev_var, ev_lvar, ev_int, ev_str, ev_bl, ev_non, ev_gstr, ev_gint, ev_bin, ev_neg, ev_cmp, ev_and, ev_or, ev_not, ev_ite, ev_tup, ev_lst, ev_dnew, ev_dnewT, ev_idx, ev_dget, ev_get3, ev_sl0, ev_sl1, ev_sl2, ev_isi, ev_bif, ev_met, ev_xop, ev_call, ev_call0, ev_fcall, ev_callL, ev_lc, ev_lcD, evs_nil, evs_cons, evi_of, evi_rng1, evi_rng2, evi_rng3, evi_zip, evi_enum, ev_chain, run_set, run_setF, run_setG, run_par, run_unp, run_unp3, lst3_k, run_ret, run_retL, run_expr, run_doc, run_rse, run_ite, run_whl, run_loop, run_app, run_ext, run_put, run_kill, run_tryX, catch_r, catch_n, run_frzB, run_fap, run_pop, run_popx, runs_nil, runs_cons, wipe_n, wipe_c, add_i, sub_i, op_mul, op_mod, op_div, idx_l, idx_t, idx_c, lt_i, le_i, gt_i, ge_i, len_l, len_t, len_c, tup_l, tup_t, items_l, items_t, optI_i, sl_t, sl_l, optR_k, optO_k, lcT_t, lcT_f, lcV_k, lcV_e, noX_k, lcF_fun, dkR_k, lstO_k, as_name, as_tup2, isN_0, isN_s, freed_n, freed_r, freed_e, lcM_map, lcM_some, lcM_filt, List.set_cons_zero, List.set_cons_succ, Bool.not_true, Bool.not_false, List.length_cons, List.length_nil, List.length_map, Nat.reduceAdd, isiD, Option.bind_some, Option.map_some, t0_cut, isn_optS, Option.isNone_some]
      · have l1 : p.length ≤ 100000 := by omega
        have l2 : (x.drop p.length).length ≤ 100000 := by rw [List.length_drop]; omega
        simp only [u_cut, cd_cut, g0_cut, g1_cut, g2_cut, lenG_0, lenG_1, lenG_2, lenG_3, lenG_4, lenG_5, lenG_6, lenG_7, lenG_8, lenG_9, lenG_10, lenG_11, lenG_12, lenG_13, lenG_14, slot_0, slot_s, bind_k, bind_e, ofO_k, resO_k, resO_e, tstO_k, tstO_e, tst_k, tst_e, then_n, then_r, then_e, out_n, out_r, out_e, ifO_t, ifO_f, ifR_t, ifR_f, ev_var, ev_lvar, ev_int, ev_str, ev_bl, ev_non, ev_gstr, ev_gint, ev_bin, ev_neg, ev_cmp, ev_and, ev_or, ev_not, ev_ite, ev_tup, ev_lst, ev_dnew, ev_dnewT, ev_idx, ev_dget, ev_get3, ev_sl0, ev_sl1, ev_sl2, ev_isi, ev_bif, ev_met, ev_xop, ev_call, ev_call0, ev_fcall, ev_callL, ev_lc, ev_lcD, evs_nil, evs_cons, evi_of, evi_rng1, evi_rng2, evi_rng3, evi_zip, evi_enum, ev_chain, run_set, run_setF, run_setG, run_par, run_unp, run_unp3, lst3_k, run_ret, run_retL, run_expr, run_doc, run_rse, run_ite, run_whl, run_loop, run_app, run_ext, run_put, run_kill, run_tryX, catch_r, catch_n, run_frzB, run_fap, run_pop, run_popx, runs_nil, runs_cons, wipe_n, wipe_c, add_i, sub_i, op_mul, op_mod, op_div, idx_l, idx_t, idx_c, lt_i, le_i, gt_i, ge_i, len_l, len_t, len_c, tup_l, tup_t, items_l, items_t, optI_i, sl_t, sl_l, optR_k, optO_k, lcT_t, lcT_f, lcV_k, lcV_e, noX_k, lcF_fun, dkR_k, lstO_k, as_name, as_tup2, isN_0, isN_s, freed_n, freed_r, freed_e, lcM_map, lcM_some, lcM_filt, List.set_cons_zero, List.set_cons_succ, Bool.not_true, Bool.not_false, List.length_cons, List.length_nil, List.length_map, Nat.reduceAdd, isiD, Option.bind_some, Option.map_some, b1_cut, optS_s, lstO_k, ad, len_s l1, sls_lo p.length (show x.length ≤ 100000 by omega), e_next_piece l2]
        rw [lsD_app]; rfl
abbrev ctD (p : List T × T) : D := .tup [lsD p.1, .str p.2]
theorem e_cut {m : Nat} {b : List T} (B : BK m b) (hb : b.length ≤ 32) {x : T} (v : VT m x) (hx : x.length ≤ 100000) : f_cut [nI m, bkD b, .str x] = .ok (ctD (cut b x)) := by
  have l := cut_loop B x.length x [] rfl v (by simp; omega)
  have l' : whileR (ev G_cut C_cut t0_cut) (runs G_cut C_cut b1_cut) [some (nI m), some (bkD b), some (.str x), some (.lst []), some (optS (nxt b x))] = _ := l
  simp only [u_cut, cd_cut, g0_cut, g1_cut, g2_cut, lenG_0, lenG_1, lenG_2, lenG_3, lenG_4, lenG_5, lenG_6, lenG_7, lenG_8, lenG_9, lenG_10, lenG_11, lenG_12, lenG_13, lenG_14, slot_0, slot_s, bind_k, bind_e, ofO_k, resO_k, resO_e, tstO_k, tstO_e, tst_k, tst_e, then_n, then_r, then_e, out_n, out_r, out_e, ifO_t, ifO_f, ifR_t, ifR_f, ev_var, ev_lvar, ev_int, ev_str, ev_bl, ev_non, ev_gstr, ev_gint, ev_bin, ev_neg, ev_cmp, ev_and, ev_or, ev_not, ev_ite, ev_tup, ev_lst, ev_dnew, ev_dnewT, ev_idx, ev_dget, ev_get3, ev_sl0, ev_sl1, ev_sl2, ev_isi, ev_bif, ev_met, ev_xop, ev_call, ev_call0, ev_fcall, ev_callL, ev_lc, ev_lcD, evs_nil, evs_cons, evi_of, evi_rng1, evi_rng2, evi_rng3, evi_zip, evi_enum, ev_chain, run_set, run_setF, run_setG, run_par, run_unp, run_unp3, lst3_k, run_ret, run_retL, run_expr, run_doc, run_rse, run_ite, run_whl, run_loop, run_app, run_ext, run_put, run_kill, run_tryX, catch_r, catch_n, run_frzB, run_fap, run_pop, run_popx, runs_nil, runs_cons, wipe_n, wipe_c, add_i, sub_i, op_mul, op_mod, op_div, idx_l, idx_t, idx_c, lt_i, le_i, gt_i, ge_i, len_l, len_t, len_c, tup_l, tup_t, items_l, items_t, optI_i, sl_t, sl_l, optR_k, optO_k, lcT_t, lcT_f, lcV_k, lcV_e, noX_k, lcF_fun, dkR_k, lstO_k, as_name, as_tup2, isN_0, isN_s, freed_n, freed_r, freed_e, lcM_map, lcM_some, lcM_filt, List.set_cons_zero, List.set_cons_succ, Bool.not_true, Bool.not_false, List.length_cons, List.length_nil, List.length_map, Nat.reduceAdd, isiD, Option.bind_some, Option.map_some, need_bk B hb, need_txt B.four v hx, e_next_piece hx, l', z2_cut, List.nil_append]
end Pb
namespace Pb
open PySem PLq Bk
open L2 (atI ixN)
end Pb
namespace Pb
open PySem PLq Bk
open L2 (atI ixN)
theorem dr_n {ns : List Int} (hl : ns.length ≤ 63) {k m : Int} (h0 : 0 ≤ k) (hk : k < 1000000) (hm : 0 < m) : ∃ n : Nat, f_law_drawn [.scr ns, .int k, .int m] = .ok (nI n) ∧ (n : Int) < m := ⟨_, e_dr hl h0 hk hm, dr_lt hl h0 hk hm⟩
theorem nil_ne : cmpD .ne (.lst []) (.lst []) = some (.bl false) := Eq.trans rfl rfl
end Pb
namespace Pb
open PySem PLq Bk
open L2 (atI ixN)
abbrev refD (i : Nat) : D := .tup [.str [114, 101, 102, 117, 115, 101, 100], .int (i : Int)]
def ctE (d : TrD) (e : Ex) : Out := catchO d (.exc e)
theorem catch_e (d : TrD) (e : Ex) : catchO d (.exc e) = ctE d e := rfl
theorem fine_ref (i : Nat) : fine (refD i) = true := fine_low (k := 1) (low_tup (k := 0) fun d hd => by
  rcases List.mem_cons.mp hd with rfl | hd
  · exact low_str fun c hc => by simp at hc; omega
  · rcases List.mem_cons.mp hd with rfl | hd
    · rfl
    · cases hd) (by decide)
theorem ref_ne (i : Nat) : cmpD .ne (refD i) (refD i) = some (.bl false) := by
  rw [cmp_ne (fine_ref i) (fine_ref i), eq_t2, eq_str, eq_int]
  simp
theorem ref_eq (i : Nat) : cmpD .eq (refD i) (refD i) = some (.bl true) := by
  rw [cmp_eq (fine_ref i) (fine_ref i), eq_t2, eq_str, eq_int]
  simp
end Pb
namespace Pb
open PySem PLq Bk
open L2 (atI ixN)
def noTup : D → Prop
  | .tup _ => False
  | _ => True
theorem are_not (m : Nat) {d : D} (h : noTup d) : f_are_pieces [nI m, d] = .ok (.bl false) := by
  cases d with
  | tup ds => exact h.elim
  | _ => simp only [u_are_pieces, cd_are_pieces, g0_are_pieces, k0_are_pieces, lenG_0, lenG_1, lenG_2, lenG_3, lenG_4, lenG_5, lenG_6, lenG_7, lenG_8, lenG_9, lenG_10, lenG_11, lenG_12, lenG_13, lenG_14, slot_0, slot_s, bind_k, bind_e, ofO_k, resO_k, resO_e, tstO_k, tstO_e, tst_k, tst_e, then_n, then_r, then_e, out_n, out_r, out_e, ifO_t, ifO_f, ifR_t, ifR_f, ev_var, ev_lvar, ev_int, ev_str, ev_bl, ev_non, ev_gstr, ev_gint, ev_bin, ev_neg, ev_cmp, ev_and, ev_or, ev_not, ev_ite, ev_tup, ev_lst, ev_dnew, ev_dnewT, ev_idx, ev_dget, ev_get3, ev_sl0, ev_sl1, ev_sl2, ev_isi, ev_bif, ev_met, ev_xop, ev_call, ev_call0, ev_fcall, ev_callL, ev_lc, ev_lcD, evs_nil, evs_cons, evi_of, evi_rng1, evi_rng2, evi_rng3, evi_zip, evi_enum, ev_chain, run_set, run_setF, run_setG, run_par, run_unp, run_unp3, lst3_k, run_ret, run_retL, run_expr, run_doc, run_rse, run_ite, run_whl, run_loop, run_app, run_ext, run_put, run_kill, run_tryX, catch_r, catch_n, run_frzB, run_fap, run_pop, run_popx, runs_nil, runs_cons, wipe_n, wipe_c, add_i, sub_i, op_mul, op_mod, op_div, idx_l, idx_t, idx_c, lt_i, le_i, gt_i, ge_i, len_l, len_t, len_c, tup_l, tup_t, items_l, items_t, optI_i, sl_t, sl_l, optR_k, optO_k, lcT_t, lcT_f, lcV_k, lcV_e, noX_k, lcF_fun, dkR_k, lstO_k, as_name, as_tup2, isN_0, isN_s, freed_n, freed_r, freed_e, lcM_map, lcM_some, lcM_filt, List.set_cons_zero, List.set_cons_succ, Bool.not_true, Bool.not_false, List.length_cons, List.length_nil, List.length_map, Nat.reduceAdd, isiD, Option.bind_some, Option.map_some]
theorem is_not {m : Nat} {d : D} (h : noTup d) : f_is_book [nI m, d] = .ok (.bl false) := by
  cases k : isNum (nI m) 2 4 with
  | true => simp only [u_is_book, cd_is_book, g0_is_book, g1_is_book, g2_is_book, g3_is_book, lenG_0, lenG_1, lenG_2, lenG_3, lenG_4, lenG_5, lenG_6, lenG_7, lenG_8, lenG_9, lenG_10, lenG_11, lenG_12, lenG_13, lenG_14, slot_0, slot_s, bind_k, bind_e, ofO_k, resO_k, resO_e, tstO_k, tstO_e, tst_k, tst_e, then_n, then_r, then_e, out_n, out_r, out_e, ifO_t, ifO_f, ifR_t, ifR_f, ev_var, ev_lvar, ev_int, ev_str, ev_bl, ev_non, ev_gstr, ev_gint, ev_bin, ev_neg, ev_cmp, ev_and, ev_or, ev_not, ev_ite, ev_tup, ev_lst, ev_dnew, ev_dnewT, ev_idx, ev_dget, ev_get3, ev_sl0, ev_sl1, ev_sl2, ev_isi, ev_bif, ev_met, ev_xop, ev_call, ev_call0, ev_fcall, ev_callL, ev_lc, ev_lcD, evs_nil, evs_cons, evi_of, evi_rng1, evi_rng2, evi_rng3, evi_zip, evi_enum, ev_chain, run_set, run_setF, run_setG, run_par, run_unp, run_unp3, lst3_k, run_ret, run_retL, run_expr, run_doc, run_rse, run_ite, run_whl, run_loop, run_app, run_ext, run_put, run_kill, run_tryX, catch_r, catch_n, run_frzB, run_fap, run_pop, run_popx, runs_nil, runs_cons, wipe_n, wipe_c, add_i, sub_i, op_mul, op_mod, op_div, idx_l, idx_t, idx_c, lt_i, le_i, gt_i, ge_i, len_l, len_t, len_c, tup_l, tup_t, items_l, items_t, optI_i, sl_t, sl_l, optR_k, optO_k, lcT_t, lcT_f, lcV_k, lcV_e, noX_k, lcF_fun, dkR_k, lstO_k, as_name, as_tup2, isN_0, isN_s, freed_n, freed_r, freed_e, lcM_map, lcM_some, lcM_filt, List.set_cons_zero, List.set_cons_succ, Bool.not_true, Bool.not_false, List.length_cons, List.length_nil, List.length_map, Nat.reduceAdd, isiD, Option.bind_some, Option.map_some, e_is_number, k, are_not m h]
  | false => simp only [u_is_book, cd_is_book, g0_is_book, g1_is_book, g2_is_book, g3_is_book, lenG_0, lenG_1, lenG_2, lenG_3, lenG_4, lenG_5, lenG_6, lenG_7, lenG_8, lenG_9, lenG_10, lenG_11, lenG_12, lenG_13, lenG_14, slot_0, slot_s, bind_k, bind_e, ofO_k, resO_k, resO_e, tstO_k, tstO_e, tst_k, tst_e, then_n, then_r, then_e, out_n, out_r, out_e, ifO_t, ifO_f, ifR_t, ifR_f, ev_var, ev_lvar, ev_int, ev_str, ev_bl, ev_non, ev_gstr, ev_gint, ev_bin, ev_neg, ev_cmp, ev_and, ev_or, ev_not, ev_ite, ev_tup, ev_lst, ev_dnew, ev_dnewT, ev_idx, ev_dget, ev_get3, ev_sl0, ev_sl1, ev_sl2, ev_isi, ev_bif, ev_met, ev_xop, ev_call, ev_call0, ev_fcall, ev_callL, ev_lc, ev_lcD, evs_nil, evs_cons, evi_of, evi_rng1, evi_rng2, evi_rng3, evi_zip, evi_enum, ev_chain, run_set, run_setF, run_setG, run_par, run_unp, run_unp3, lst3_k, run_ret, run_retL, run_expr, run_doc, run_rse, run_ite, run_whl, run_loop, run_app, run_ext, run_put, run_kill, run_tryX, catch_r, catch_n, run_frzB, run_fap, run_pop, run_popx, runs_nil, runs_cons, wipe_n, wipe_c, add_i, sub_i, op_mul, op_mod, op_div, idx_l, idx_t, idx_c, lt_i, le_i, gt_i, ge_i, len_l, len_t, len_c, tup_l, tup_t, items_l, items_t, optI_i, sl_t, sl_l, optR_k, optO_k, lcT_t, lcT_f, lcV_k, lcV_e, noX_k, lcF_fun, dkR_k, lstO_k, as_name, as_tup2, isN_0, isN_s, freed_n, freed_r, freed_e, lcM_map, lcM_some, lcM_filt, List.set_cons_zero, List.set_cons_succ, Bool.not_true, Bool.not_false, List.length_cons, List.length_nil, List.length_map, Nat.reduceAdd, isiD, Option.bind_some, Option.map_some, e_is_number, k]
theorem is_not_m {md d : D} (h : isNum md 2 4 = false) : f_is_book [md, d] = .ok (.bl false) := by
  simp only [u_is_book, cd_is_book, g0_is_book, g1_is_book, g2_is_book, g3_is_book, lenG_0, lenG_1, lenG_2, lenG_3, lenG_4, lenG_5, lenG_6, lenG_7, lenG_8, lenG_9, lenG_10, lenG_11, lenG_12, lenG_13, lenG_14, slot_0, slot_s, bind_k, bind_e, ofO_k, resO_k, resO_e, tstO_k, tstO_e, tst_k, tst_e, then_n, then_r, then_e, out_n, out_r, out_e, ifO_t, ifO_f, ifR_t, ifR_f, ev_var, ev_lvar, ev_int, ev_str, ev_bl, ev_non, ev_gstr, ev_gint, ev_bin, ev_neg, ev_cmp, ev_and, ev_or, ev_not, ev_ite, ev_tup, ev_lst, ev_dnew, ev_dnewT, ev_idx, ev_dget, ev_get3, ev_sl0, ev_sl1, ev_sl2, ev_isi, ev_bif, ev_met, ev_xop, ev_call, ev_call0, ev_fcall, ev_callL, ev_lc, ev_lcD, evs_nil, evs_cons, evi_of, evi_rng1, evi_rng2, evi_rng3, evi_zip, evi_enum, ev_chain, run_set, run_setF, run_setG, run_par, run_unp, run_unp3, lst3_k, run_ret, run_retL, run_expr, run_doc, run_rse, run_ite, run_whl, run_loop, run_app, run_ext, run_put, run_kill, run_tryX, catch_r, catch_n, run_frzB, run_fap, run_pop, run_popx, runs_nil, runs_cons, wipe_n, wipe_c, add_i, sub_i, op_mul, op_mod, op_div, idx_l, idx_t, idx_c, lt_i, le_i, gt_i, ge_i, len_l, len_t, len_c, tup_l, tup_t, items_l, items_t, optI_i, sl_t, sl_l, optR_k, optO_k, lcT_t, lcT_f, lcV_k, lcV_e, noX_k, lcF_fun, dkR_k, lstO_k, as_name, as_tup2, isN_0, isN_s, freed_n, freed_r, freed_e, lcM_map, lcM_some, lcM_filt, List.set_cons_zero, List.set_cons_succ, Bool.not_true, Bool.not_false, List.length_cons, List.length_nil, List.length_map, Nat.reduceAdd, isiD, Option.bind_some, Option.map_some, e_is_number, h]
theorem need_of {md d : D} (h : f_is_book [md, d] = .ok (.bl false)) : f_need_book [md, d] = .exc .book := by
  simp only [u_need_book, cd_need_book, g0_need_book, lenG_0, lenG_1, lenG_2, lenG_3, lenG_4, lenG_5, lenG_6, lenG_7, lenG_8, lenG_9, lenG_10, lenG_11, lenG_12, lenG_13, lenG_14, slot_0, slot_s, bind_k, bind_e, ofO_k, resO_k, resO_e, tstO_k, tstO_e, tst_k, tst_e, then_n, then_r, then_e, out_n, out_r, out_e, ifO_t, ifO_f, ifR_t, ifR_f, ev_var, ev_lvar, ev_int, ev_str, ev_bl, ev_non, ev_gstr, ev_gint, ev_bin, ev_neg, ev_cmp, ev_and, ev_or, ev_not, ev_ite, ev_tup, ev_lst, ev_dnew, ev_dnewT, ev_idx, ev_dget, ev_get3, ev_sl0, ev_sl1, ev_sl2, ev_isi, ev_bif, ev_met, ev_xop, ev_call, ev_call0, ev_fcall, ev_callL, ev_lc, ev_lcD, evs_nil, evs_cons, evi_of, evi_rng1, evi_rng2, evi_rng3, evi_zip, evi_enum, ev_chain, run_set, run_setF, run_setG, run_par, run_unp, run_unp3, lst3_k, run_ret, run_retL, run_expr, run_doc, run_rse, run_ite, run_whl, run_loop, run_app, run_ext, run_put, run_kill, run_tryX, catch_r, catch_n, run_frzB, run_fap, run_pop, run_popx, runs_nil, runs_cons, wipe_n, wipe_c, add_i, sub_i, op_mul, op_mod, op_div, idx_l, idx_t, idx_c, lt_i, le_i, gt_i, ge_i, len_l, len_t, len_c, tup_l, tup_t, items_l, items_t, optI_i, sl_t, sl_l, optR_k, optO_k, lcT_t, lcT_f, lcV_k, lcV_e, noX_k, lcF_fun, dkR_k, lstO_k, as_name, as_tup2, isN_0, isN_s, freed_n, freed_r, freed_e, lcM_map, lcM_some, lcM_filt, List.set_cons_zero, List.set_cons_succ, Bool.not_true, Bool.not_false, List.length_cons, List.length_nil, List.length_map, Nat.reduceAdd, isiD, Option.bind_some, Option.map_some, h]
theorem isb_of {m : Nat} {b : List T} (h2 : 2 ≤ m) (h4 : m ≤ 4) (h : Sml b) (ok : OkB b) (n : isB m b = false) : f_is_book [nI m, bkD b] = .ok (.bl false) := by rw [e_is_book h2 h4 h ok, n]
theorem isB_nil (m : Nat) : isB m [] = false := rfl
theorem isB_of {m : Nat} {b : List T} (h2 : 2 ≤ m) (h4 : m ≤ 4) (n : ¬ BK m b) : isB m b = false := by
  cases e : isB m b with
  | false => rfl
  | true => exact absurd ((isB_iff h2 h4).mp e).1 n
theorem sub_not {m : Nat} {b b' : List T} (B : BK m b) (hs : ∀ q ∈ b', q ∈ b) {p : T} (hp : p ∈ b) (hn : p ∉ b') : ¬ BK m b' := fun B' => by
  by_cases h : Hd b' p
  · obtain ⟨q, hq, h1, h2⟩ := h
    exact h2 (B.uniq hp (hs q hq) h1 (List.prefix_refl q))
  · rw [B'.hd_iff (B.vt p hp), Classical.not_not] at h
    obtain ⟨q, hq, h1⟩ := h
    have := B.uniq (hs q hq) hp h1 (List.prefix_refl p)
    exact hn (this ▸ hq)
theorem sml_nil : Sml [] := ⟨by decide, fun p h => by cases h⟩
theorem sml_sub {b b' : List T} (h : Sml b) (hl : b'.length ≤ b.length) (hs : ∀ q ∈ b', q ∈ b) : Sml b' := ⟨by have := h.few; omega, fun q hq => h.short q (hs q hq)⟩
theorem okB_sub {b b' : List T} (h : OkB b) (hs : ∀ q ∈ b', q ∈ b) : OkB b' := fun q hq => h q (hs q hq)
theorem drop1_no {m : Nat} {b : List T} (B : BK m b) (hb : b.length ≤ 32) : f_is_book [nI m, bkD (b.drop 1)] = .ok (.bl false) := by
  have hs : ∀ q ∈ b.drop 1, q ∈ b := fun q hq => List.mem_of_mem_drop hq
  have nd := B.srt.nodup
  have ne := B.ne_nil
  cases b with
  | nil => exact absurd rfl ne
  | cons p r =>
    have hn : p ∉ (p :: r).drop 1 := (List.nodup_cons.mp nd).1
    exact isb_of B.two B.four (sml_sub (bk_sml B (by omega)) (by simp) hs) (okB_sub (bk_ok B) hs) (isB_of B.two B.four (sub_not B hs List.mem_cons_self hn))
theorem none_no (m : Nat) : f_is_book [nI m, .non] = .ok (.bl false) := is_not trivial
theorem nil_no {m : Nat} (h2 : 2 ≤ m) (h4 : m ≤ 4) : f_is_book [nI m, .tup []] = .ok (.bl false) := isb_of (b := []) h2 h4 sml_nil (fun _ h => by cases h) (isB_nil m)
theorem list_no {m : Nat} (ds : List D) : f_is_book [nI m, .lst ds] = .ok (.bl false) := is_not trivial
end Pb
namespace Pb
open PySem PLq Bk
open L2 (atI ixN)
section
variable {m : Nat} {b : List T} (B : BK m b)
include B
def more (b : List T) (p : T) : List T := isort (b ++ [p ++ [98]])
end
theorem ok_inn {b : List T} (ok : OkB b) : OkB (inn b) := fun x hx => hdl_ok ok x (hdl_mem.mpr (inn_mem.mp hx))
end Pb
namespace Pb
open PySem PLq Bk
open L2 (atI ixN)
end Pb
namespace Pb
open PySem PLq Bk
open L2 (atI ixN)
end Pb
namespace Pb
open PySem PLq Bk
open L2 (atI ixN)
end Pb
namespace Pb
open PySem PLq Bk
open L2 (atI ixN)
def num (w : T) : Nat := w.foldl (fun a c => 2 * a + (c - 48)) 0
end Pb
namespace Pb
open PySem PLq Bk
open L2 (atI ixN)
end Pb
namespace Pb
open PySem PLq Bk
open L2 (atI ixN)
end Pb
namespace Pb
open PySem PLq Bk
open L2 (atI ixN)
end Pb
namespace Pb
open PySem PLq Bk
open L2 (atI ixN)
theorem cut_no {m : Nat} {b : List T} (B : BK m b) (hb : b.length ≤ 32) {d : D} (sm : small d) (h : isTxt m d = false) : f_cut [nI m, bkD b, d] = .exc .letters := by
  simp only [u_cut, cd_cut, g0_cut, g1_cut, g2_cut, lenG_0, lenG_1, lenG_2, lenG_3, lenG_4, lenG_5, lenG_6, lenG_7, lenG_8, lenG_9, lenG_10, lenG_11, lenG_12, lenG_13, lenG_14, slot_0, slot_s, bind_k, bind_e, ofO_k, resO_k, resO_e, tstO_k, tstO_e, tst_k, tst_e, then_n, then_r, then_e, out_n, out_r, out_e, ifO_t, ifO_f, ifR_t, ifR_f, ev_var, ev_lvar, ev_int, ev_str, ev_bl, ev_non, ev_gstr, ev_gint, ev_bin, ev_neg, ev_cmp, ev_and, ev_or, ev_not, ev_ite, ev_tup, ev_lst, ev_dnew, ev_dnewT, ev_idx, ev_dget, ev_get3, ev_sl0, ev_sl1, ev_sl2, ev_isi, ev_bif, ev_met, ev_xop, ev_call, ev_call0, ev_fcall, ev_callL, ev_lc, ev_lcD, evs_nil, evs_cons, evi_of, evi_rng1, evi_rng2, evi_rng3, evi_zip, evi_enum, ev_chain, run_set, run_setF, run_setG, run_par, run_unp, run_unp3, lst3_k, run_ret, run_retL, run_expr, run_doc, run_rse, run_ite, run_whl, run_loop, run_app, run_ext, run_put, run_kill, run_tryX, catch_r, catch_n, run_frzB, run_fap, run_pop, run_popx, runs_nil, runs_cons, wipe_n, wipe_c, add_i, sub_i, op_mul, op_mod, op_div, idx_l, idx_t, idx_c, lt_i, le_i, gt_i, ge_i, len_l, len_t, len_c, tup_l, tup_t, items_l, items_t, optI_i, sl_t, sl_l, optR_k, optO_k, lcT_t, lcT_f, lcV_k, lcV_e, noX_k, lcF_fun, dkR_k, lstO_k, as_name, as_tup2, isN_0, isN_s, freed_n, freed_r, freed_e, lcM_map, lcM_some, lcM_filt, List.set_cons_zero, List.set_cons_succ, Bool.not_true, Bool.not_false, List.length_cons, List.length_nil, List.length_map, Nat.reduceAdd, isiD, Option.bind_some, Option.map_some, need_bk B hb, e_need_text B.four d sm, h, Bool.false_eq_true, if_false]
section
variable {m bk d n : D} (h : f_is_book [m, bk] = .ok (.bl false))
include h
theorem cut_nb : f_cut [m, bk, d] = .exc .book := by simp only [u_cut, cd_cut, g0_cut, g1_cut, g2_cut, lenG_0, lenG_1, lenG_2, lenG_3, lenG_4, lenG_5, lenG_6, lenG_7, lenG_8, lenG_9, lenG_10, lenG_11, lenG_12, lenG_13, lenG_14, slot_0, slot_s, bind_k, bind_e, ofO_k, resO_k, resO_e, tstO_k, tstO_e, tst_k, tst_e, then_n, then_r, then_e, out_n, out_r, out_e, ifO_t, ifO_f, ifR_t, ifR_f, ev_var, ev_lvar, ev_int, ev_str, ev_bl, ev_non, ev_gstr, ev_gint, ev_bin, ev_neg, ev_cmp, ev_and, ev_or, ev_not, ev_ite, ev_tup, ev_lst, ev_dnew, ev_dnewT, ev_idx, ev_dget, ev_get3, ev_sl0, ev_sl1, ev_sl2, ev_isi, ev_bif, ev_met, ev_xop, ev_call, ev_call0, ev_fcall, ev_callL, ev_lc, ev_lcD, evs_nil, evs_cons, evi_of, evi_rng1, evi_rng2, evi_rng3, evi_zip, evi_enum, ev_chain, run_set, run_setF, run_setG, run_par, run_unp, run_unp3, lst3_k, run_ret, run_retL, run_expr, run_doc, run_rse, run_ite, run_whl, run_loop, run_app, run_ext, run_put, run_kill, run_tryX, catch_r, catch_n, run_frzB, run_fap, run_pop, run_popx, runs_nil, runs_cons, wipe_n, wipe_c, add_i, sub_i, op_mul, op_mod, op_div, idx_l, idx_t, idx_c, lt_i, le_i, gt_i, ge_i, len_l, len_t, len_c, tup_l, tup_t, items_l, items_t, optI_i, sl_t, sl_l, optR_k, optO_k, lcT_t, lcT_f, lcV_k, lcV_e, noX_k, lcF_fun, dkR_k, lstO_k, as_name, as_tup2, isN_0, isN_s, freed_n, freed_r, freed_e, lcM_map, lcM_some, lcM_filt, List.set_cons_zero, List.set_cons_succ, Bool.not_true, Bool.not_false, List.length_cons, List.length_nil, List.length_map, Nat.reduceAdd, isiD, Option.bind_some, Option.map_some, need_of h]
end
end Pb
namespace Pb
open PySem PLq Bk
open L2 (atI ixN)
end Pb
namespace Pb
open PySem PLq Bk
open L2 (atI ixN)
section
variable {md bk t z : D}
end
theorem filter_one {p : T} : ∀ {b : List T}, b.Nodup → p ∈ b → b.filter (fun q => decide (q = p)) = [p]
  | q :: b, nd, h => by
    rw [List.nodup_cons] at nd
    by_cases e : q = p
    · subst e
      rw [List.filter_cons_of_pos (by simp)]
      have : b.filter (fun r => decide (r = q)) = [] := by
        rw [List.filter_eq_nil_iff]
        intro r hr h'
        exact nd.1 ((of_decide_eq_true h') ▸ hr)
      rw [this]
    · rw [List.filter_cons_of_neg (by simpa using e)]
      exact filter_one nd.2 ((List.mem_cons.mp h).resolve_left fun z => e z.symm)
theorem fl_nxt {m : Nat} {b : List T} (B : BK m b) (x : T) : b.filter (fun p => decide (p <+: x)) = (nxt b x).toList := by
  cases q : nxt b x with
  | none =>
    rw [Option.toList_none, List.filter_eq_nil_iff]
    exact fun p hp h => B.nxt_none q ⟨p, hp, of_decide_eq_true h⟩
  | some p =>
    obtain ⟨hp, hx⟩ := nxt_some' q
    have e : b.filter (fun q => decide (q <+: x)) = b.filter (fun q => decide (q = p)) := List.filter_congr fun r hr => decide_eq_decide.mpr ⟨fun h => B.uniq hr hp h hx, fun h => h ▸ hx⟩
    rw [e, filter_one B.srt.nodup hp]; rfl
end Pb
namespace Pb
open PySem PLq Bk
open L2 (atI ixN)
section
variable {md bk t : D}
theorem tq {d : D} (h : f_cut [md, bk, t] = .ok d) : f_law_told_k13 [md, bk, t] = .ok d := by
  simp only [u_law_told_k13, cd_law_told_k13, g0_law_told_k13, lenG_0, lenG_1, lenG_2, lenG_3, lenG_4, lenG_5, lenG_6, lenG_7, lenG_8, lenG_9, lenG_10, lenG_11, lenG_12, lenG_13, lenG_14, slot_0, slot_s, bind_k, bind_e, ofO_k, resO_k, resO_e, tstO_k, tstO_e, tst_k, tst_e, then_n, then_r, then_e, out_n, out_r, out_e, ifO_t, ifO_f, ifR_t, ifR_f, ev_var, ev_lvar, ev_int, ev_str, ev_bl, ev_non, ev_gstr, ev_gint, ev_bin, ev_neg, ev_cmp, ev_and, ev_or, ev_not, ev_ite, ev_tup, ev_lst, ev_dnew, ev_dnewT, ev_idx, ev_dget, ev_get3, ev_sl0, ev_sl1, ev_sl2, ev_isi, ev_bif, ev_met, ev_xop, ev_call, ev_call0, ev_fcall, ev_callL, ev_lc, ev_lcD, evs_nil, evs_cons, evi_of, evi_rng1, evi_rng2, evi_rng3, evi_zip, evi_enum, ev_chain, run_set, run_setF, run_setG, run_par, run_unp, run_unp3, lst3_k, run_ret, run_retL, run_expr, run_doc, run_rse, run_ite, run_whl, run_loop, run_app, run_ext, run_put, run_kill, run_tryX, catch_r, catch_n, run_frzB, run_fap, run_pop, run_popx, runs_nil, runs_cons, wipe_n, wipe_c, add_i, sub_i, op_mul, op_mod, op_div, idx_l, idx_t, idx_c, lt_i, le_i, gt_i, ge_i, len_l, len_t, len_c, tup_l, tup_t, items_l, items_t, optI_i, sl_t, sl_l, optR_k, optO_k, lcT_t, lcT_f, lcV_k, lcV_e, noX_k, lcF_fun, dkR_k, lstO_k, as_name, as_tup2, isN_0, isN_s, freed_n, freed_r, freed_e, lcM_map, lcM_some, lcM_filt, List.set_cons_zero, List.set_cons_succ, Bool.not_true, Bool.not_false, List.length_cons, List.length_nil, List.length_map, Nat.reduceAdd, isiD, Option.bind_some, Option.map_some, y0_law_told_k13, h]
theorem tqx {e : Ex} (h : f_cut [md, bk, t] = .exc e) (i : Nat) (he : (e = .book ∧ i = 1) ∨ (e = .letters ∧ i = 3)) : f_law_told_k13 [md, bk, t] = .ok (refD i) := by
  simp only [u_law_told_k13, cd_law_told_k13, g0_law_told_k13, lenG_0, lenG_1, lenG_2, lenG_3, lenG_4, lenG_5, lenG_6, lenG_7, lenG_8, lenG_9, lenG_10, lenG_11, lenG_12, lenG_13, lenG_14, slot_0, slot_s, bind_k, bind_e, ofO_k, resO_k, resO_e, tstO_k, tstO_e, tst_k, tst_e, then_n, then_r, then_e, out_n, out_r, out_e, ifO_t, ifO_f, ifR_t, ifR_f, ev_var, ev_lvar, ev_int, ev_str, ev_bl, ev_non, ev_gstr, ev_gint, ev_bin, ev_neg, ev_cmp, ev_and, ev_or, ev_not, ev_ite, ev_tup, ev_lst, ev_dnew, ev_dnewT, ev_idx, ev_dget, ev_get3, ev_sl0, ev_sl1, ev_sl2, ev_isi, ev_bif, ev_met, ev_xop, ev_call, ev_call0, ev_fcall, ev_callL, ev_lc, ev_lcD, evs_nil, evs_cons, evi_of, evi_rng1, evi_rng2, evi_rng3, evi_zip, evi_enum, ev_chain, run_set, run_setF, run_setG, run_par, run_unp, run_unp3, lst3_k, run_ret, run_retL, run_expr, run_doc, run_rse, run_ite, run_whl, run_loop, run_app, run_ext, run_put, run_kill, run_tryX, catch_r, catch_n, run_frzB, run_fap, run_pop, run_popx, runs_nil, runs_cons, wipe_n, wipe_c, add_i, sub_i, op_mul, op_mod, op_div, idx_l, idx_t, idx_c, lt_i, le_i, gt_i, ge_i, len_l, len_t, len_c, tup_l, tup_t, items_l, items_t, optI_i, sl_t, sl_l, optR_k, optO_k, lcT_t, lcT_f, lcV_k, lcV_e, noX_k, lcF_fun, dkR_k, lstO_k, as_name, as_tup2, isN_0, isN_s, freed_n, freed_r, freed_e, lcM_map, lcM_some, lcM_filt, List.set_cons_zero, List.set_cons_succ, Bool.not_true, Bool.not_false, List.length_cons, List.length_nil, List.length_map, Nat.reduceAdd, isiD, Option.bind_some, Option.map_some, y0_law_told_k13, h, catch_e]
  rcases he with ⟨rfl, rfl⟩ | ⟨rfl, rfl⟩ <;> rfl
end
theorem r3_30 : ∀ {n : Nat}, n < 31 → rng3D (.int 0) (nI n) (.int 3) = some ((List.range ((n + 2) / 3)).map fun i : Nat => nI (3 * i)) := fun {n} h => match n, h with
  | 0, _ => rfl
  | 1, _ => rfl
  | 2, _ => rfl
  | 3, _ => rfl
  | 4, _ => rfl
  | 5, _ => rfl
  | 6, _ => rfl
  | 7, _ => rfl
  | 8, _ => rfl
  | 9, _ => rfl
  | 10, _ => rfl
  | 11, _ => rfl
  | 12, _ => rfl
  | 13, _ => rfl
  | 14, _ => rfl
  | 15, _ => rfl
  | 16, _ => rfl
  | 17, _ => rfl
  | 18, _ => rfl
  | 19, _ => rfl
  | 20, _ => rfl
  | 21, _ => rfl
  | 22, _ => rfl
  | 23, _ => rfl
  | 24, _ => rfl
  | 25, _ => rfl
  | 26, _ => rfl
  | 27, _ => rfl
  | 28, _ => rfl
  | 29, _ => rfl
  | 30, _ => rfl
  | n + 31, h => by omega
theorem cut_pre {m : Nat} {b : List T} (B : BK m b) {x : T} (v : VT m x) (k : Nat) : (cut b x).1.take (cut b (x.take k)).1.length = (cut b (x.take k)).1 := by
  have h := B.cut_app (x := x.take k) (y := x.drop k) (fun c hc => v c (List.mem_of_mem_take hc)) (fun c hc => v c (List.mem_of_mem_drop hc))
  rw [List.take_append_drop] at h
  rw [h]
  exact List.take_left
theorem k13_0 {ns : List Int} {m : Nat} {b : List T} (B : BK m b) (x0 x : T) (z4 z6 z7 z8 z9 z10 z12 z13 : Option D) : lcM (fun p : T => lcT (ev G_law_k13 C_law_k13 t0_law_k13 [some (.scr ns), some (nI m), some (bkD b), some (.str x0), z4, some (.str x), z6, z7, z8, z9, z10, some (.str p), z12, z13]) (lcV (ev G_law_k13 C_law_k13 e1_law_k13 [some (.scr ns), some (nI m), some (bkD b), some (.str x0), z4, some (.str x), z6, z7, z8, z9, z10, some (.str p), z12, z13]))) b = .ok ((nxt b x).toList.map D.str) := by
  rw [← fl_nxt B]
  exact lcM_fl fun p hp => by simp only [u_law_k13, cd_law_k13, g0_law_k13, g1_law_k13, g2_law_k13, g3_law_k13, g4_law_k13, g5_law_k13, lenG_0, lenG_1, lenG_2, lenG_3, lenG_4, lenG_5, lenG_6, lenG_7, lenG_8, lenG_9, lenG_10, lenG_11, lenG_12, lenG_13, lenG_14, slot_0, slot_s, bind_k, bind_e, ofO_k, resO_k, resO_e, tstO_k, tstO_e, tst_k, tst_e, then_n, then_r, then_e, out_n, out_r, out_e, ifO_t, ifO_f, ifR_t, ifR_f, ev_var, ev_lvar, ev_int, ev_str, ev_bl, ev_non, ev_gstr, ev_gint, ev_bin, ev_neg, ev_cmp, ev_and, ev_or, ev_not, ev_ite, ev_tup, ev_lst, ev_dnew, ev_dnewT, ev_idx, ev_dget, ev_get3, ev_sl0, ev_sl1, ev_sl2, ev_isi, ev_bif, ev_met, ev_xop, ev_call, ev_call0, ev_fcall, ev_callL, ev_lc, ev_lcD, evs_nil, evs_cons, evi_of, evi_rng1, evi_rng2, evi_rng3, evi_zip, evi_enum, ev_chain, run_set, run_setF, run_setG, run_par, run_unp, run_unp3, lst3_k, run_ret, run_retL, run_expr, run_doc, run_rse, run_ite, run_whl, run_loop, run_app, run_ext, run_put, run_kill, run_tryX, catch_r, catch_n, run_frzB, run_fap, run_pop, run_popx, runs_nil, runs_cons, wipe_n, wipe_c, add_i, sub_i, op_mul, op_mod, op_div, idx_l, idx_t, idx_c, lt_i, le_i, gt_i, ge_i, len_l, len_t, len_c, tup_l, tup_t, items_l, items_t, optI_i, sl_t, sl_l, optR_k, optO_k, lcT_t, lcT_f, lcV_k, lcV_e, noX_k, lcF_fun, dkR_k, lstO_k, as_name, as_tup2, isN_0, isN_s, freed_n, freed_r, freed_e, lcM_map, lcM_some, lcM_filt, List.set_cons_zero, List.set_cons_succ, Bool.not_true, Bool.not_false, List.length_cons, List.length_nil, List.length_map, Nat.reduceAdd, isiD, Option.bind_some, Option.map_some, t0_law_k13, e1_law_k13, rec_starts, met_starts]
theorem k13_3 {ns : List Int} {m : Nat} {b : List T} (B : BK m b) (x0 x : T) (z4 z6 z7 z8 z9 z10 z12 z13 : Option D) : lcM (fun p : T => lcT (ev G_law_k13 C_law_k13 t3_law_k13 [some (.scr ns), some (nI m), some (bkD b), some (.str x0), z4, some (.str x), z6, z7, z8, z9, z10, some (.str p), z12, z13]) (lcV (ev G_law_k13 C_law_k13 e4_law_k13 [some (.scr ns), some (nI m), some (bkD b), some (.str x0), z4, some (.str x), z6, z7, z8, z9, z10, some (.str p), z12, z13]))) b = .ok ((nxt b x).toList.map D.str) := by
  rw [← fl_nxt B]
  exact lcM_fl fun p hp => by simp only [u_law_k13, cd_law_k13, g0_law_k13, g1_law_k13, g2_law_k13, g3_law_k13, g4_law_k13, g5_law_k13, lenG_0, lenG_1, lenG_2, lenG_3, lenG_4, lenG_5, lenG_6, lenG_7, lenG_8, lenG_9, lenG_10, lenG_11, lenG_12, lenG_13, lenG_14, slot_0, slot_s, bind_k, bind_e, ofO_k, resO_k, resO_e, tstO_k, tstO_e, tst_k, tst_e, then_n, then_r, then_e, out_n, out_r, out_e, ifO_t, ifO_f, ifR_t, ifR_f, ev_var, ev_lvar, ev_int, ev_str, ev_bl, ev_non, ev_gstr, ev_gint, ev_bin, ev_neg, ev_cmp, ev_and, ev_or, ev_not, ev_ite, ev_tup, ev_lst, ev_dnew, ev_dnewT, ev_idx, ev_dget, ev_get3, ev_sl0, ev_sl1, ev_sl2, ev_isi, ev_bif, ev_met, ev_xop, ev_call, ev_call0, ev_fcall, ev_callL, ev_lc, ev_lcD, evs_nil, evs_cons, evi_of, evi_rng1, evi_rng2, evi_rng3, evi_zip, evi_enum, ev_chain, run_set, run_setF, run_setG, run_par, run_unp, run_unp3, lst3_k, run_ret, run_retL, run_expr, run_doc, run_rse, run_ite, run_whl, run_loop, run_app, run_ext, run_put, run_kill, run_tryX, catch_r, catch_n, run_frzB, run_fap, run_pop, run_popx, runs_nil, runs_cons, wipe_n, wipe_c, add_i, sub_i, op_mul, op_mod, op_div, idx_l, idx_t, idx_c, lt_i, le_i, gt_i, ge_i, len_l, len_t, len_c, tup_l, tup_t, items_l, items_t, optI_i, sl_t, sl_l, optR_k, optO_k, lcT_t, lcT_f, lcV_k, lcV_e, noX_k, lcF_fun, dkR_k, lstO_k, as_name, as_tup2, isN_0, isN_s, freed_n, freed_r, freed_e, lcM_map, lcM_some, lcM_filt, List.set_cons_zero, List.set_cons_succ, Bool.not_true, Bool.not_false, List.length_cons, List.length_nil, List.length_map, Nat.reduceAdd, isiD, Option.bind_some, Option.map_some, t3_law_k13, e4_law_k13, rec_starts, met_starts]
theorem k13_loop {ns : List Int} {m : Nat} {b : List T} (B : BK m b) (hb : b.length ≤ 32) (x0 : T) : ∀ (n : Nat) (x : T) (ps : List T), x.length = n → VT m x → ps.length + x.length ≤ 100000 →
    whileR (ev G_law_k13 C_law_k13 t2_law_k13) (runs G_law_k13 C_law_k13 b5_law_k13) [some (.scr ns), some (nI m), some (bkD b), some (.str x0), some (lsD ps), some (.str x), some (.lst ((nxt b x).toList.map D.str)), none, none, none, none, none, none, none] = .nx [some (.scr ns), some (nI m), some (bkD b), some (.str x0), some (lsD (ps ++ (cut b x).1)), some (.str (cut b x).2), some (.lst []), none, none, none, none, none, none, none] := by
  intro n
  induction n using Nat.strongRecOn with
  | ind n ih =>
    intro x ps e v hl
    cases q : nxt b x with
    | none =>
      have nn : cmpD .ne (.lst (((none : Option T).toList).map D.str)) (.lst []) = some (.bl false) := nil_ne
      rw [while_end (by simp only [u_law_k13, cd_law_k13, g0_law_k13, g1_law_k13, g2_law_k13, g3_law_k13, g4_law_k13, g5_law_k13, lenG_0, lenG_1, lenG_2, lenG_3, lenG_4, lenG_5, lenG_6, lenG_7, lenG_8, lenG_9, lenG_10, lenG_11, lenG_12, lenG_13, lenG_14, slot_0, slot_s, bind_k, bind_e, ofO_k, resO_k, resO_e, tstO_k, tstO_e, tst_k, tst_e, then_n, then_r, then_e, out_n, out_r, out_e, ifO_t, ifO_f, ifR_t, ifR_f, ev_var, ev_lvar, ev_int, ev_str, ev_bl, ev_non, ev_gstr, ev_gint, ev_bin, ev_neg, ev_cmp, ev_and, ev_or, ev_not, ev_ite, ev_tup, ev_lst, ev_dnew, ev_dnewT, ev_idx, ev_dget, ev_get3, ev_sl0, ev_sl1, ev_sl2, ev_isi, ev_bif, ev_met, ev_xop, ev_call, ev_call0, ev_fcall, ev_callL, ev_lc, ev_lcD, evs_nil, evs_cons, evi_of, evi_rng1, evi_rng2, evi_rng3, evi_zip, evi_enum, ev_chain, run_set, run_setF, run_setG, run_par, run_unp, run_unp3, lst3_k, run_ret, run_retL, run_expr, run_doc, run_rse, run_ite, run_whl, run_loop, run_app, run_ext, run_put, run_kill, run_tryX, catch_r, catch_n, run_frzB, run_fap, run_pop, run_popx, runs_nil, runs_cons, wipe_n, wipe_c, add_i, sub_i, op_mul, op_mod, op_div, idx_l, idx_t, idx_c, lt_i, le_i, gt_i, ge_i, len_l, len_t, len_c, tup_l, tup_t, items_l, items_t, optI_i, sl_t, sl_l, optR_k, optO_k, lcT_t, lcT_f, lcV_k, lcV_e, noX_k, lcF_fun, dkR_k, lstO_k, as_name, as_tup2, isN_0, isN_s, freed_n, freed_r, freed_e, lcM_map, lcM_some, lcM_filt, List.set_cons_zero, List.set_cons_succ, Bool.not_true, Bool.not_false, List.length_cons, List.length_nil, List.length_map, Nat.reduceAdd, isiD, Option.bind_some, Option.map_some, t2_law_k13, nn])]
      unfold cut
      rw [cutF_none q]
      simp
    | some p =>
      have hp := nxt_some' q
      have hpos := B.nxt_pos q
      have hpl := hp.2.length_le
      have okp := bk_ok B p hp.1
      have ad : ∀ o, lenO (ps.length + 1) o = o := fun o => lenO_ok (by omega)
      have nn : cmpD .ne (.lst (((some p : Option T).toList).map D.str)) (.lst []) = some (.bl true) := by
        have := cne_ls (x := [p]) (y := []) (okB_cons.mpr ⟨okp, okB_nil.mpr trivial⟩) (okB_nil.mpr trivial)
        rw [decide_eq_false (by simp)] at this
        exact this
      have a0 : atI (((some p : Option T).toList).map D.str) 0 = some (.str p) := rfl
      rw [while_go (ρ2 := [some (.scr ns), some (nI m), some (bkD b), some (.str x0), some (lsD (ps ++ [p])), some (.str (x.drop p.length)), some (.lst ((nxt b (x.drop p.length)).toList.map D.str)), none, none, none, none, none, none, none])]
      · have hd : (x.drop p.length).length = x.length - p.length := List.length_drop
        have vd : VT m (x.drop p.length) := fun c hc => v c (List.mem_of_mem_drop hc)
        rw [ih (x.drop p.length).length (by omega) _ (ps ++ [p]) rfl vd (by rw [List.length_append, List.length_singleton]; omega), B.cut_step q v]
        simp
      · simp only [u_law_k13, cd_law_k13, g0_law_k13, g1_law_k13, g2_law_k13, g3_law_k13, g4_law_k13, g5_law_k13, lenG_0, lenG_1, lenG_2, lenG_3, lenG_4, lenG_5, lenG_6, lenG_7, lenG_8, lenG_9, lenG_10, lenG_11, lenG_12, lenG_13, lenG_14, slot_0, slot_s, bind_k, bind_e, ofO_k, resO_k, resO_e, tstO_k, tstO_e, tst_k, tst_e, then_n, then_r, then_e, out_n, out_r, out_e, ifO_t, ifO_f, ifR_t, ifR_f, ev_var, ev_lvar, ev_int, ev_str, ev_bl, ev_non, ev_gstr, ev_gint, ev_bin, ev_neg, ev_cmp, ev_and, ev_or, ev_not, ev_ite, ev_tup, ev_lst, ev_dnew, ev_dnewT, ev_idx, ev_dget, ev_get3, ev_sl0, ev_sl1, ev_sl2, ev_isi, ev_bif, ev_met, ev_xop, ev_call, ev_call0, ev_fcall, ev_callL, ev_lc, ev_lcD, evs_nil, evs_cons, evi_of, evi_rng1, evi_rng2, evi_rng3, evi_zip, evi_enum, ev_chain, run_set, run_setF, run_setG, run_par, run_unp, run_unp3, lst3_k, run_ret, run_retL, run_expr, run_doc, run_rse, run_ite, run_whl, run_loop, run_app, run_ext, run_put, run_kill, run_tryX, catch_r, catch_n, run_frzB, run_fap, run_pop, run_popx, runs_nil, runs_cons, wipe_n, wipe_c, add_i, sub_i, op_mul, op_mod, op_div, idx_l, idx_t, idx_c, lt_i, le_i, gt_i, ge_i, len_l, len_t, len_c, tup_l, tup_t, items_l, items_t, optI_i, sl_t, sl_l, optR_k, optO_k, lcT_t, lcT_f, lcV_k, lcV_e, noX_k, lcF_fun, dkR_k, lstO_k, as_name, as_tup2, isN_0, isN_s, freed_n, freed_r, freed_e, lcM_map, lcM_some, lcM_filt, List.set_cons_zero, List.set_cons_succ, Bool.not_true, Bool.not_false, List.length_cons, List.length_nil, List.length_map, Nat.reduceAdd, isiD, Option.bind_some, Option.map_some, t2_law_k13, nn]
      · have l1 : p.length ≤ 100000 := by omega
        have lc := k13_3 (ns := ns) B x0 (x.drop p.length)
        simp only [u_law_k13, cd_law_k13, g0_law_k13, g1_law_k13, g2_law_k13, g3_law_k13, g4_law_k13, g5_law_k13, lenG_0, lenG_1, lenG_2, lenG_3, lenG_4, lenG_5, lenG_6, lenG_7, lenG_8, lenG_9, lenG_10, lenG_11, lenG_12, lenG_13, lenG_14, slot_0, slot_s, bind_k, bind_e, ofO_k, resO_k, resO_e, tstO_k, tstO_e, tst_k, tst_e, then_n, then_r, then_e, out_n, out_r, out_e, ifO_t, ifO_f, ifR_t, ifR_f, ev_var, ev_lvar, ev_int, ev_str, ev_bl, ev_non, ev_gstr, ev_gint, ev_bin, ev_neg, ev_cmp, ev_and, ev_or, ev_not, ev_ite, ev_tup, ev_lst, ev_dnew, ev_dnewT, ev_idx, ev_dget, ev_get3, ev_sl0, ev_sl1, ev_sl2, ev_isi, ev_bif, ev_met, ev_xop, ev_call, ev_call0, ev_fcall, ev_callL, ev_lc, ev_lcD, evs_nil, evs_cons, evi_of, evi_rng1, evi_rng2, evi_rng3, evi_zip, evi_enum, ev_chain, run_set, run_setF, run_setG, run_par, run_unp, run_unp3, lst3_k, run_ret, run_retL, run_expr, run_doc, run_rse, run_ite, run_whl, run_loop, run_app, run_ext, run_put, run_kill, run_tryX, catch_r, catch_n, run_frzB, run_fap, run_pop, run_popx, runs_nil, runs_cons, wipe_n, wipe_c, add_i, sub_i, op_mul, op_mod, op_div, idx_l, idx_t, idx_c, lt_i, le_i, gt_i, ge_i, len_l, len_t, len_c, tup_l, tup_t, items_l, items_t, optI_i, sl_t, sl_l, optR_k, optO_k, lcT_t, lcT_f, lcV_k, lcV_e, noX_k, lcF_fun, dkR_k, lstO_k, as_name, as_tup2, isN_0, isN_s, freed_n, freed_r, freed_e, lcM_map, lcM_some, lcM_filt, List.set_cons_zero, List.set_cons_succ, Bool.not_true, Bool.not_false, List.length_cons, List.length_nil, List.length_map, Nat.reduceAdd, isiD, Option.bind_some, Option.map_some, b5_law_k13, a0, lstO_k, ad, len_s l1, sls_lo p.length (show x.length ≤ 100000 by omega), lenG_ok (show b.length ≤ 100000 by omega), lc]
        rw [lsD_app]; rfl
theorem at_abcde {i : Nat} (h : i < 5) : idxD (.str [97, 98, 99, 100, 101]) (nI i) = some (.str [97 + i]) := by
  rw [idx_s _ (by decide)]
  match i, h with
  | 0, _ => rfl
  | 1, _ => rfl
  | 2, _ => rfl
  | 3, _ => rfl
  | 4, _ => rfl
theorem rev_no {m : Nat} {b : List T} (B : BK m b) (hb : b.length ≤ 32) : f_is_book [nI m, bkD b.reverse] = .ok (.bl false) := by
  refine isb_of B.two B.four ⟨by rw [List.length_reverse]; omega, fun p hp => ?_⟩ (fun p hp => bk_ok B p (List.mem_reverse.mp hp)) (isB_of B.two B.four fun R => ?_)
  · exact (bk_sml B (by omega)).2 p (List.mem_reverse.mp hp)
  · have s1 := B.srt
    have s2 := List.pairwise_reverse.mp R.srt
    have l : m ≤ b.length := by
      have h1 := B.len
      have h2 := B.two
      obtain ⟨l, e, _⟩ := B.inn_nil
      rw [e, List.length_cons, Nat.add_mul, Nat.one_mul] at h1
      omega
    cases b with
    | nil => have := B.two; simp at l; omega
    | cons p r =>
      cases r with
      | nil => have := B.two; simp at l; omega
      | cons q r =>
        exact lt_as ((List.pairwise_cons.mp s1).1 q List.mem_cons_self) ((List.pairwise_cons.mp s2).1 q List.mem_cons_self)
theorem law13 (ns : List Int) (hl : ns.length ≤ 63) : f_law_k13 [.scr ns] = .ok (.bl true) := by
  obtain ⟨k, d0, l0⟩ := dr_n hl (k := 0) (m := 3) (by decide) (by decide) (by decide)
  obtain ⟨u, d1, l1⟩ := dr_n hl (k := 10) (m := 5) (by decide) (by decide) (by decide)
  obtain ⟨m, hm⟩ : ∃ m, m = 2 + k := ⟨_, rfl⟩
  have hm' : (2 : Int) + (k : Int) = (m : Int) := by omega
  have h2 : 2 ≤ m := by omega
  have h4 : m ≤ 4 := by omega
  obtain ⟨b, hb, B, hbl⟩ := e_law_book hl (a := 1) (m := m) (t := u) (by decide) (by decide) h2 h4 (by omega)
  have tm : u * (m - 1) ≤ 4 * 3 := Nat.mul_le_mul (by omega) (by omega)
  have b32 : b.length ≤ 32 := by omega
  have ok := bk_ok B
  have h40 : ∀ p ∈ b, p.length ≤ 40 := fun p hp => by have := B.len_lt p hp; omega
  obtain ⟨x, hx, xl, vx⟩ := e_law_text hl (a := 20) (m := m) (l := 30) (by decide) (by decide) (by omega) h4 (by decide)
  have hx : f_law_text [.scr ns, .int 20, nI m, .int 30] = .ok (.str x) := hx
  have okx := vt_ok vx
  have lc0 := k13_0 (ns := ns) B x x
  have loop := k13_loop (ns := ns) B b32 x x.length x [] rfl vx (by simp; omega)
  rw [List.nil_append] at loop
  have loop' : whileR (ev G_law_k13 C_law_k13 t2_law_k13) (runs G_law_k13 C_law_k13 b5_law_k13) [some (.scr ns), some (nI m), some (bkD b), some (.str x), some (.lst []), some (.str x), some (.lst ((nxt b x).toList.map D.str)), none, none, none, none, none, none, none] = _ := loop
  have ec := e_cut B b32 vx (by omega)
  obtain ⟨sp1, sp2, sp3⟩ := B.cut_spec vx
  obtain ⟨ps, hps⟩ : ∃ ps, ps = (cut b x).1 := ⟨_, rfl⟩
  obtain ⟨lt, hlt⟩ : ∃ lt, lt = (cut b x).2 := ⟨_, rfl⟩
  have ect : ctD (cut b x) = .tup [lsD ps, .str lt] := by rw [ctD, hps, hlt]
  rw [← hps] at loop' sp1 sp2
  rw [← hlt] at loop' sp1 sp3
  rw [ect] at ec
  have t0 := tq ec
  have flen : ∀ {qs : List T} {l y : T}, qs.flatten ++ l = y → y.length ≤ 30 → (qs.map List.length).sum ≤ 100000 ∧ qs.flatten.length + l.length ≤ 100000 := fun {qs l y} e h => by
    have := congrArg List.length e
    rw [List.length_append] at this
    rw [← List.length_flatten]
    omega
  have okps : OkB ps := fun p hp => ok p (sp2 p hp)
  have oklt : OkT lt := fun c hc => okx c (by rw [← sp1]; exact List.mem_append_right _ hc)
  have fT : fine (.tup [lsD ps, .str lt]) = true := fine_low (k := 2) (low_tup fun d hd => by
    rcases List.mem_cons.mp hd with rfl | hd
    · exact low_ls okps
    · have := List.mem_singleton.mp hd
      subst this
      exact low_up (low_str oklt) (by decide)) (by decide)
  have c0 : cmpD .ne (.tup [lsD ps, .str lt]) (.tup [lsD ps, .str lt]) = some (.bl false) := by
    rw [cmp_ne fT fT, eq_t2, eq_ls, eq_str]; simp
  have j0 := join_ls ps (flen sp1 xl).1
  have a0 := add_s (x := ps.flatten) (y := lt) (flen sp1 xl).2
  rw [sp1] at a0
  have c1 := cne_str okx okx
  rw [decide_eq_true rfl] at c1
  have ei := e_inner_of (bk_sml B (by omega)) ok
  have okI : OkB (inn b) := ok_inn ok
  have n0 := nin_ls oklt okI
  rw [decide_eq_true (inn_mem.mpr sp3)] at n0
  have pl30 : ps.length ≤ 30 := by
    have e := congrArg List.length sp1
    have pos : ∀ l : List T, (∀ p ∈ l, p ∈ b) → l.length ≤ l.flatten.length := fun l => by
      induction l with
      | nil => exact fun _ => Nat.le_refl _
      | cons p l ih =>
        intro h
        have hp := h p List.mem_cons_self
        have h1 : 1 ≤ p.length := by
          cases p with
          | nil => exact absurd hp B.ne
          | cons c r => simp
        have := ih fun p hp => h p (List.mem_cons_of_mem _ hp)
        rw [List.flatten_cons, List.length_append, List.length_cons]; omega
    have := pos ps sp2
    rw [List.length_append] at e
    omega
  have rj : recvOk .join (.str []) = true := rfl
  have r3 := r3_30 (n := x.length) (by omega)
  have loopS := for_id (tg := .name 7) (b := runs G_law_k13 C_law_k13 b6_law_k13) (fun i : Nat => nI (3 * i)) [some (.scr ns), some (nI m), some (bkD b), some (.str x), some (lsD ps), some (.str lt), some (.lst []), none, none, none, none, none, none, none] (List.range ((x.length + 2) / 3)) (by
    intro i hi
    refine ⟨_, rfl, ?_⟩
    have s1 := sls_hi (x := x) (3 * i) (by omega)
    obtain ⟨y, hy⟩ : ∃ y, y = x.take (3 * i) := ⟨_, rfl⟩
    rw [← hy] at s1
    have vy : VT m y := fun c hc => vx c (by rw [hy] at hc; exact List.mem_of_mem_take hc)
    have yl : y.length ≤ 30 := by rw [hy, List.length_take]; omega
    have oky := vt_ok vy
    have ec2 := e_cut B b32 vy (by omega)
    obtain ⟨q1, q2, q3⟩ := B.cut_spec vy
    have pr := cut_pre B vx (3 * i)
    rw [← hy, ← hps] at pr
    obtain ⟨qs, hqs⟩ : ∃ qs, qs = (cut b y).1 := ⟨_, rfl⟩
    obtain ⟨rt, hrt⟩ : ∃ rt, rt = (cut b y).2 := ⟨_, rfl⟩
    have ect2 : ctD (cut b y) = .tup [lsD qs, .str rt] := by rw [ctD, hqs, hrt]
    rw [ect2] at ec2
    rw [← hqs] at q1 q2 pr
    rw [← hrt] at q1
    have okqs : OkB qs := fun p hp => ok p (q2 p hp)
    have lq : qs.length ≤ 100000 := by
      have := congrArg List.length pr
      rw [List.length_take] at this
      omega
    have s2 : slD (lsD ps) none (some (qs.length : Int)) = some (lsD qs) := by
      show some (D.lst (cutL (ps.map D.str) none (some (qs.length : Int)))) = _
      rw [cutL_hi, ← List.map_take, pr]
    have e1 := cne_ls okqs okqs
    rw [decide_eq_true rfl] at e1
    have j1 := join_ls qs (flen q1 yl).1
    have a1 := add_s (x := qs.flatten) (y := rt) (flen q1 yl).2
    rw [q1] at a1
    have e2 := cne_str oky oky
    rw [decide_eq_true rfl] at e2
    simp only [u_law_k13, cd_law_k13, g0_law_k13, g1_law_k13, g2_law_k13, g3_law_k13, g4_law_k13, g5_law_k13, lenG_0, lenG_1, lenG_2, lenG_3, lenG_4, lenG_5, lenG_6, lenG_7, lenG_8, lenG_9, lenG_10, lenG_11, lenG_12, lenG_13, lenG_14, slot_0, slot_s, bind_k, bind_e, ofO_k, resO_k, resO_e, tstO_k, tstO_e, tst_k, tst_e, then_n, then_r, then_e, out_n, out_r, out_e, ifO_t, ifO_f, ifR_t, ifR_f, ev_var, ev_lvar, ev_int, ev_str, ev_bl, ev_non, ev_gstr, ev_gint, ev_bin, ev_neg, ev_cmp, ev_and, ev_or, ev_not, ev_ite, ev_tup, ev_lst, ev_dnew, ev_dnewT, ev_idx, ev_dget, ev_get3, ev_sl0, ev_sl1, ev_sl2, ev_isi, ev_bif, ev_met, ev_xop, ev_call, ev_call0, ev_fcall, ev_callL, ev_lc, ev_lcD, evs_nil, evs_cons, evi_of, evi_rng1, evi_rng2, evi_rng3, evi_zip, evi_enum, ev_chain, run_set, run_setF, run_setG, run_par, run_unp, run_unp3, lst3_k, run_ret, run_retL, run_expr, run_doc, run_rse, run_ite, run_whl, run_loop, run_app, run_ext, run_put, run_kill, run_tryX, catch_r, catch_n, run_frzB, run_fap, run_pop, run_popx, runs_nil, runs_cons, wipe_n, wipe_c, add_i, sub_i, op_mul, op_mod, op_div, idx_l, idx_t, idx_c, lt_i, le_i, gt_i, ge_i, len_l, len_t, len_c, tup_l, tup_t, items_l, items_t, optI_i, sl_t, sl_l, optR_k, optO_k, lcT_t, lcT_f, lcV_k, lcV_e, noX_k, lcF_fun, dkR_k, lstO_k, as_name, as_tup2, isN_0, isN_s, freed_n, freed_r, freed_e, lcM_map, lcM_some, lcM_filt, List.set_cons_zero, List.set_cons_succ, Bool.not_true, Bool.not_false, List.length_cons, List.length_nil, List.length_map, Nat.reduceAdd, isiD, Option.bind_some, Option.map_some, b6_law_k13, s1, ec2, lenG_ok lq, s2, e1, rj, j1, a1, e2])
  have fo : fapO 8 [some (.scr ns), some (nI m), some (bkD b), some (.str x), some (lsD ps), some (.str lt), some (.lst []), none, none, none, none, none, none, none] (.tup [lsD ps, .str lt]) = .nx [some (.scr ns), some (nI m), some (bkD b), some (.str x), some (lsD ps), some (.str lt), some (.lst []), none, none, none, none, none, none, none] := fapO_ok (by simp) (by rw [List.length_map]; omega)
  have ab := at_abcde (i := m) (by omega)
  have ad1 := add_s (x := x) (y := [97 + m]) (by simp; omega)
  have ad2 := add_s (x := x) (y := [65]) (by simp; omega)
  obtain ⟨v, d60, l60⟩ := dr_n hl (k := 60) (m := 5) (by decide) (by decide) (by decide)
  obtain ⟨bad, hbad, sbad, nbad⟩ : ∃ d, atI [D.str (x ++ [97 + m]), .non, .lst [.str x], .str (x ++ [65]), .int 1] (v : Int) = some d ∧ small d ∧ isTxt m d = false := by
    have no : ∀ c, c ∉ lets m → isTxt m (.str (x ++ [c])) = false := fun c hc => by
      show ((x ++ [c]).all fun c => decide (c ∈ lets m)) = false
      rw [List.all_append]
      simp [hc]
    have lt : ∀ c ∈ lets m, 97 ≤ c ∧ c < 97 + m := fun c hc => by
      have := lets_ix h4 hc
      omega
    have sm : ∀ c, small (.str (x ++ [c])) := fun c => by show (x ++ [c]).length ≤ 100000; simp; omega
    have hv : v < 5 := by omega
    match v, hv with
    | 0, _ => exact ⟨_, rfl, sm _, no _ fun k => by have := lt _ k; omega⟩
    | 1, _ => exact ⟨_, rfl, trivial, rfl⟩
    | 2, _ => exact ⟨_, rfl, trivial, rfl⟩
    | 3, _ => exact ⟨_, rfl, sm _, no _ fun k => by have := lt _ k; omega⟩
    | 4, _ => exact ⟨_, rfl, trivial, rfl⟩
  have t1 := tqx (cut_no B b32 sbad nbad) 3 (.inr ⟨rfl, rfl⟩)
  have r3' : cmpD .ne (refD 3) (.tup [.str [114, 101, 102, 117, 115, 101, 100], .int 3]) = some (.bl false) := ref_ne 3
  have a00 : atI [lsD ps, .str lt] 0 = some (lsD ps) := rfl
  have c3 := cne_ls okps okps
  rw [decide_eq_true rfl] at c3
  obtain ⟨w, d61, l61⟩ := dr_n hl (k := 61) (m := 6) (by decide) (by decide) (by decide)
  obtain ⟨nn, hnn, nnb⟩ : ∃ d, atI [D.tup ((b.drop 1).map D.str), .non, .tup [], bkD b.reverse, .lst (b.map D.str), bkD (b ++ [[122]])] (w : Int) = some d ∧ f_is_book [nI m, d] = .ok (.bl false) := by
    have hi : w < 6 := by omega
    match w, hi with
    | 0, _ => exact ⟨_, rfl, drop1_no B b32⟩
    | 1, _ => exact ⟨_, rfl, none_no _⟩
    | 2, _ => exact ⟨_, rfl, nil_no h2 h4⟩
    | 3, _ => exact ⟨_, rfl, rev_no B b32⟩
    | 4, _ => exact ⟨_, rfl, list_no _⟩
    | 5, _ =>
      refine ⟨_, rfl, isb_of h2 h4 ⟨by rw [List.length_append]; simp; omega, fun p hp => ?_⟩ (okB_app.mpr ⟨ok, okB_cons.mpr ⟨fun c hc => by simp at hc; omega, okB_nil.mpr trivial⟩⟩) (isB_of h2 h4 fun B' => ?_)⟩
      · rcases List.mem_append.mp hp with hp | hp
        · have := h40 p hp; omega
        · have : p = [122] := by simpa using hp
          subst this; decide
      · have := lets_ix h4 (B'.vt [122] (by simp) 122 (by simp))
        omega
  have adz : opD .add (bkD b) (.tup [.str [122]]) = some (bkD (b ++ [[122]])) := add_bk (a := b) (b := [[122]]) (by simp; omega)
  have cu1 : cutL (b.map D.str) (some 1) none = (b.drop 1).map D.str := by
    have := cutL_lo (b.map D.str) 1
    rw [← List.map_drop] at this
    exact this
  have rv : xopD .rev [bkD b] = some (bkD b.reverse) := by
    show some (D.tup (b.map D.str).reverse) = _
    rw [← List.map_reverse]
  have li : bifD .list [bkD b] = some (.lst (b.map D.str)) := rfl
  have t2 := tqx (t := bad) (cut_nb nnb) 1 (.inl ⟨rfl, rfl⟩)
  have t3 : f_law_told_k13 [.int 5, bkD b, .str x] = .ok (refD 1) := tqx (cut_nb (is_not_m rfl)) 1 (.inl ⟨rfl, rfl⟩)
  have r1' : cmpD .eq (refD 1) (.tup [.str [114, 101, 102, 117, 115, 101, 100], .int 1]) = some (.bl true) := ref_eq 1
  simp only [u_law_k13, cd_law_k13, g0_law_k13, g1_law_k13, g2_law_k13, g3_law_k13, g4_law_k13, g5_law_k13, lenG_0, lenG_1, lenG_2, lenG_3, lenG_4, lenG_5, lenG_6, lenG_7, lenG_8, lenG_9, lenG_10, lenG_11, lenG_12, lenG_13, lenG_14, slot_0, slot_s, bind_k, bind_e, ofO_k, resO_k, resO_e, tstO_k, tstO_e, tst_k, tst_e, then_n, then_r, then_e, out_n, out_r, out_e, ifO_t, ifO_f, ifR_t, ifR_f, ev_var, ev_lvar, ev_int, ev_str, ev_bl, ev_non, ev_gstr, ev_gint, ev_bin, ev_neg, ev_cmp, ev_and, ev_or, ev_not, ev_ite, ev_tup, ev_lst, ev_dnew, ev_dnewT, ev_idx, ev_dget, ev_get3, ev_sl0, ev_sl1, ev_sl2, ev_isi, ev_bif, ev_met, ev_xop, ev_call, ev_call0, ev_fcall, ev_callL, ev_lc, ev_lcD, evs_nil, evs_cons, evi_of, evi_rng1, evi_rng2, evi_rng3, evi_zip, evi_enum, ev_chain, run_set, run_setF, run_setG, run_par, run_unp, run_unp3, lst3_k, run_ret, run_retL, run_expr, run_doc, run_rse, run_ite, run_whl, run_loop, run_app, run_ext, run_put, run_kill, run_tryX, catch_r, catch_n, run_frzB, run_fap, run_pop, run_popx, runs_nil, runs_cons, wipe_n, wipe_c, add_i, sub_i, op_mul, op_mod, op_div, idx_l, idx_t, idx_c, lt_i, le_i, gt_i, ge_i, len_l, len_t, len_c, tup_l, tup_t, items_l, items_t, optI_i, sl_t, sl_l, optR_k, optO_k, lcT_t, lcT_f, lcV_k, lcV_e, noX_k, lcF_fun, dkR_k, lstO_k, as_name, as_tup2, isN_0, isN_s, freed_n, freed_r, freed_e, lcM_map, lcM_some, lcM_filt, List.set_cons_zero, List.set_cons_succ, Bool.not_true, Bool.not_false, List.length_cons, List.length_nil, List.length_map, Nat.reduceAdd, isiD, Option.bind_some, Option.map_some, d0, hm', d1, hb, hx, lenG_ok (show b.length ≤ 100000 by omega), lc0, loop', z7_law_k13, t0, c0, rj, j0, a0, c1, ei, n0, len_s (show x.length ≤ 100000 by omega), r3, loopS, ec, fo, ab, ad1, ad2, d60, hbad, t1, r3', a00, c3, cu1, rv, li, adz, d61, hnn, t2, r1', t3]
end Pb
theorem PySem.Challenge.cw_piecebooks_k13_cut_holds : PySem.Challenge.rw_piecebooks_k13_cut.Holds :=
  Pb.holds fun ns h => Pb.law13 ns h
