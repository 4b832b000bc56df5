import PyProof.Rows.All
import Wide.All
import OpenK.AllK
import Wide.FinOn
import HandS.ForMost
import HandS.ForExc
import HandS.Wide
import HandS.TupAny
import HandS.Deep
import HandS.Flow
import HandS.More
import HandS.Defaults
import HandS.Iter
import HandS.Zip
import HandS.Style
import HandS.Comp
import HandS.Lambda
import HandS.Small
import KE.KExcSuper
import KE.KExcIs
import KE.KExcMake
import HandS.ExcInit
import HandS.ExcField
import HandS.ExcIs
import HandS.Nested
import HandS.TryOnly
import HandS.IsInst
import HandS.OwnEq
import HandS.RaiseMore
import HandS.FStr
import HandS.HeadHook2
import HandS.EndBits
import HandS.Head0
import HandS.Head1
import HandS.Head2
import HandS.HeadEnd
import HandS.HeadHook1
import PySem.Challenge.RW_seatedtwice_k01_scenes
set_option Elab.async false
set_option linter.all false
set_option autoImplicit false
set_option maxRecDepth 100000
set_option maxHeartbeats 2000000
/-! VL: values by what they are worth. Frozen data D, owned trees T, slots of T; what a heap bears of them. -/
namespace VL
open PySem PySem.Spec L2
open PyProof.Rows hiding St

inductive D where
  | non | bl (b : Bool) | int (i : Int) | str (s : Str)
  | tup (l : List D) | lst (l : List D) | dct (kvs : List (Key × D)) | obj (C : Addr) (fs : List (Str × D))
  | ref (a : Addr) | ty (n : String)
  /-- a list of ints that is only read (the script) -/
  | scr (ns : List Int)
  /-- a caught exception at a, of the class at C, its dict, its fields -/
  | exc (a C : Addr) (d : Option Addr) (fs : List (Str × D))
  deriving Inhabited

/-- owned: frozen data, or a container that nobody else holds -/
inductive T where
  | frz (d : D)
  | bl (ds : List D) | bd (kvs : List (Key × D)) | bo (C : Addr) (fs : List (Str × T))
  | bL (ts : List T) | bD (kvs : List (Key × T))
  deriving Inhabited

abbrev Sl := List (Option T)

mutual
inductive Rz (K : PySem.W.Frag) (Z : Hp) : D → V → Prop
  | non : Rz K Z .non .non
  | bl (b : Bool) : Rz K Z (.bl b) (.bl b)
  | int (i : Int) : Rz K Z (.int i) (.int i)
  | str (s : Str) (h : PyData.strOk s = true) : Rz K Z (.str s) (.str s)
  | ref (a : Addr) : Rz K Z (.ref a) (.ref a)
  | ty (n : String) : Rz K Z (.ty n) (.ty n)
  | tup {ds vs a} : SqT K Z a vs → Rzs K Z ds vs → Rz K Z (.tup ds) (.ref a)
  | lst {ds vs a} : Z a = some (.lst vs) → Rzs K Z ds vs → Rz K Z (.lst ds) (.ref a)
  | scr {ns : List Int} {a} : SqL K Z a (ns.map V.int) → Rz K Z (.scr ns) (.ref a)
  | dct {kvs : List (Key × D)} {kvs' : List (Key × V)} {a} : Rd Z a (.dK kvs') → kvs'.map (·.1) = kvs.map (·.1) → Rzs K Z (kvs.map (·.2)) (kvs'.map (·.2)) → Rz K Z (.dct kvs) (.ref a)
  | exc0 {a C : Addr} : Rz K Z (.exc a C none []) (.ref a)
  | excd {a C dd : Addr} {fs : List (Str × D)} {fs' : List (Str × V)} : Z dd = some (.xd fs') → fs'.map (·.1) = fs.map (·.1) → Rzs K Z (fs.map (·.2)) (fs'.map (·.2)) → Rz K Z (.exc a C (some dd) fs) (.ref a)
  | obj {C dx} {fs : List (Str × D)} {fs' : List (Str × V)} {a} : Z a = some (.ins C dx fs') → fs'.map (·.1) = fs.map (·.1) → Rzs K Z (fs.map (·.2)) (fs'.map (·.2)) → Rz K Z (.obj C fs) (.ref a)
inductive Rzs (K : PySem.W.Frag) (Z : Hp) : List D → List V → Prop
  | nil : Rzs K Z [] []
  | cons {d v ds vs} : Rz K Z d v → Rzs K Z ds vs → Rzs K Z (d :: ds) (v :: vs)
end

theorem SqL.mono {K : PySem.W.Frag} {Z Z' : Hp} (h1 : ∀ a u, Rd Z a u → Rd Z' a u) {a : Addr} {xs : List V} (h : SqL K Z a xs) : SqL K Z' a xs := by
  rcases h with h | h
  · exact .inl (h1 _ _ h)
  · exact .inr h
theorem SqT.mono {K : PySem.W.Frag} {Z Z' : Hp} (h1 : ∀ a u, Rd Z a u → Rd Z' a u) {a : Addr} {xs : List V} (h : SqT K Z a xs) : SqT K Z' a xs := by
  rcases h with h | h
  · exact .inl (h1 _ _ h)
  · exact .inr h
theorem lst_nd (vs : List V) : ∀ kvs, HO.lst vs ≠ HO.dK kvs := fun _ e => nomatch e
theorem ins_nd (C dx : Addr) (fs : List (Str × V)) : ∀ kvs, HO.ins C dx fs ≠ HO.dK kvs := fun _ e => nomatch e
theorem xd_nd (fs : List (Str × V)) : ∀ kvs, HO.xd fs ≠ HO.dK kvs := fun _ e => nomatch e
mutual
theorem Rz.monoR {K : PySem.W.Frag} {Z Z' : Hp} (h1 : ∀ a u, Rd Z a u → Rd Z' a u) (h2 : ∀ a o, (∀ kvs, o ≠ HO.dK kvs) → Z a = some o → Z' a = some o) : ∀ {d : D} {v : V}, Rz K Z d v → Rz K Z' d v
  | _, _, .non => .non
  | _, _, .bl b => .bl b
  | _, _, .int i => .int i
  | _, _, .str s h => .str s h
  | _, _, .ref a => .ref a
  | _, _, .ty n => .ty n
  | _, _, .tup h r => .tup (SqT.mono h1 h) (Rzs.monoR h1 h2 r)
  | _, _, .lst h r => .lst (h2 _ _ (lst_nd _) h) (Rzs.monoR h1 h2 r)
  | _, _, .scr h => .scr (SqL.mono h1 h)
  | _, _, .dct h e r => .dct (h1 _ _ h) e (Rzs.monoR h1 h2 r)
  | _, _, .exc0 => .exc0
  | _, _, .excd h e r => .excd (h2 _ _ (xd_nd _) h) e (Rzs.monoR h1 h2 r)
  | _, _, .obj h e r => .obj (h2 _ _ (ins_nd _ _ _) h) e (Rzs.monoR h1 h2 r)
theorem Rzs.monoR {K : PySem.W.Frag} {Z Z' : Hp} (h1 : ∀ a u, Rd Z a u → Rd Z' a u) (h2 : ∀ a o, (∀ kvs, o ≠ HO.dK kvs) → Z a = some o → Z' a = some o) : ∀ {d : List D} {v : List V}, Rzs K Z d v → Rzs K Z' d v
  | _, _, .nil => .nil
  | _, _, .cons h r => .cons (Rz.monoR h1 h2 h) (Rzs.monoR h1 h2 r)
end
theorem rd_same {Z Z' : Hp} (h : Same Z Z') : ∀ a u, Rd Z a u → Rd Z' a u := fun a u r => by
  rcases r with r | ⟨o, r⟩
  · exact .inl (h _ _ r)
  · exact .inr ⟨o, h _ _ r⟩
theorem Rz.mono {K : PySem.W.Frag} {Z Z' : Hp} (h : Same Z Z') {d : D} {v : V} (r : Rz K Z d v) : Rz K Z' d v := r.monoR (rd_same h) fun _ _ _ e => h _ _ e
theorem Rzs.mono {K : PySem.W.Frag} {Z Z' : Hp} (h : Same Z Z') {d : List D} {v : List V} (r : Rzs K Z d v) : Rzs K Z' d v := r.monoR (rd_same h) fun _ _ _ e => h _ _ e
section
variable {K : PySem.W.Frag} {Z : Hp}
theorem Rzs.length {ds : List D} {vs : List V} (r : Rzs K Z ds vs) : ds.length = vs.length := by
  induction ds generalizing vs with
  | nil => cases r; rfl
  | cons d ds ih => cases r with | cons h r => simp [ih r]
theorem Rzs.append {ds es : List D} {vs ws : List V} (r : Rzs K Z ds vs) (q : Rzs K Z es ws) : Rzs K Z (ds ++ es) (vs ++ ws) := by
  induction ds generalizing vs with
  | nil => cases r; exact q
  | cons d ds ih => cases r with | cons h r => exact .cons h (ih r)
theorem Rzs.one {d : D} {v : V} (r : Rz K Z d v) : Rzs K Z [d] [v] := .cons r .nil
theorem Rzs.get {ds : List D} {vs : List V} (r : Rzs K Z ds vs) {i : Nat} {d : D} (h : ds[i]? = some d) : ∃ v, vs[i]? = some v ∧ Rz K Z d v := by
  induction ds generalizing vs i with
  | nil => simp at h
  | cons d' ds ih =>
    cases r with
    | cons q r =>
      cases i with
      | zero => simp at h; subst h; exact ⟨_, rfl, q⟩
      | succ i => simpa using ih r (i := i) (by simpa using h)
theorem Rzs.getV {ds : List D} {vs : List V} (r : Rzs K Z ds vs) {i : Nat} {v : V} (h : vs[i]? = some v) : ∃ d, ds[i]? = some d ∧ Rz K Z d v := by
  induction ds generalizing vs i with
  | nil => cases r; simp at h
  | cons d' ds ih =>
    cases r with
    | cons q r =>
      cases i with
      | zero => simp at h; subst h; exact ⟨_, rfl, q⟩
      | succ i => simpa using ih r (i := i) (by simpa using h)
theorem Rzs.take {ds : List D} {vs : List V} (r : Rzs K Z ds vs) (n : Nat) : Rzs K Z (ds.take n) (vs.take n) := by
  induction ds generalizing vs n with
  | nil => cases r; simp; exact .nil
  | cons d ds ih =>
    cases r with
    | cons q r =>
      cases n with
      | zero => exact .nil
      | succ n => exact .cons q (ih r n)
theorem Rzs.drop {ds : List D} {vs : List V} (r : Rzs K Z ds vs) (n : Nat) : Rzs K Z (ds.drop n) (vs.drop n) := by
  induction ds generalizing vs n with
  | nil => cases r; simp; exact .nil
  | cons d ds ih =>
    cases r with
    | cons q r =>
      cases n with
      | zero => exact .cons q r
      | succ n => exact ih r n
theorem Rzs.set {ds : List D} {vs : List V} (r : Rzs K Z ds vs) {d : D} {v : V} (q : Rz K Z d v) (i : Nat) : Rzs K Z (ds.set i d) (vs.set i v) := by
  induction ds generalizing vs i with
  | nil => cases r; exact .nil
  | cons d ds ih =>
    cases r with
    | cons q' r =>
      cases i with
      | zero => exact .cons q r
      | succ n => exact .cons q' (ih r n)
theorem Rzs.reverse {ds : List D} {vs : List V} (r : Rzs K Z ds vs) : Rzs K Z ds.reverse vs.reverse := by
  induction ds generalizing vs with
  | nil => cases r; exact .nil
  | cons d ds ih => cases r with | cons h r => simpa using (ih r).append (.one h)
theorem Rzs.eraseIdx {ds : List D} {vs : List V} (r : Rzs K Z ds vs) (i : Nat) : Rzs K Z (ds.eraseIdx i) (vs.eraseIdx i) := by
  induction ds generalizing vs i with
  | nil => cases r; exact .nil
  | cons d ds ih =>
    cases r with
    | cons q r =>
      cases i with
      | zero => exact r
      | succ n => exact .cons q (ih r n)
theorem Rzs.flatten {dss : List (List D)} {vss : List (List V)} (r : Paired (fun d v => Rzs K Z d v) dss vss) : Rzs K Z dss.flatten vss.flatten := by
  induction r with
  | nil => exact .nil
  | cons h _ ih => exact h.append ih
theorem Rzs.strs : ∀ {zs : List Str} {vs : List V}, Rzs K Z (zs.map D.str) vs → vs = zs.map V.str
  | [], _, r => by cases r; rfl
  | z :: zs, _, r => by cases r with | cons h r => cases h; rw [List.map_cons, Rzs.strs r]
theorem Rzs.ofStrs : ∀ (zs : List Str), (∀ z ∈ zs, PyData.strOk z = true) → Rzs K Z (zs.map D.str) (zs.map V.str)
  | [], _ => .nil
  | z :: zs, h => .cons (.str z (h z List.mem_cons_self)) (Rzs.ofStrs zs fun y hy => h y (List.mem_cons_of_mem _ hy))
theorem Rzs.strsOk : ∀ {zs : List Str} {vs : List V}, Rzs K Z (zs.map D.str) vs → ∀ z ∈ zs, PyData.strOk z = true
  | [], _, _ => fun z hz => absurd hz (by simp)
  | z :: zs, _, r => fun y hy => by
    cases r with
    | cons h r =>
      cases h with
      | str _ ok =>
        rcases List.mem_cons.mp hy with e | e
        · rw [e]; exact ok
        · exact Rzs.strsOk r y e
theorem Rzs.ints : ∀ {zs : List Int} {vs : List V}, Rzs K Z (zs.map D.int) vs → vs = zs.map V.int
  | [], _, r => by cases r; rfl
  | z :: zs, _, r => by cases r with | cons h r => cases h; rw [List.map_cons, Rzs.ints r]
theorem Rzs.ofInts : ∀ (zs : List Int), Rzs K Z (zs.map D.int) (zs.map V.int)
  | [] => .nil
  | z :: zs => .cons (.int z) (Rzs.ofInts zs)
theorem Rzs.bls : ∀ {zs : List Bool} {vs : List V}, Rzs K Z (zs.map D.bl) vs → vs = zs.map V.bl
  | [], _, r => by cases r; rfl
  | z :: zs, _, r => by cases r with | cons h r => cases h; rw [List.map_cons, Rzs.bls r]
end

/-! ### owned trees -/
mutual
def T.toD : T → D
  | .frz d => d
  | .bl ds => .lst ds
  | .bd kvs => .dct kvs
  | .bo C fs => .obj C (T.toDf fs)
  | .bL ts => .lst (T.toDs ts)
  | .bD kvs => .dct (T.toDk kvs)
def T.toDs : List T → List D
  | [] => []
  | t :: ts => t.toD :: T.toDs ts
def T.toDf : List (Str × T) → List (Str × D)
  | [] => []
  | (k, t) :: ts => (k, t.toD) :: T.toDf ts
def T.toDk : List (Key × T) → List (Key × D)
  | [] => []
  | (k, t) :: ts => (k, t.toD) :: T.toDk ts
end
theorem toDf_keys : ∀ fs : List (Str × T), (T.toDf fs).map (·.1) = fs.map (·.1)
  | [] => rfl
  | (k, t) :: r => by simp [T.toDf, toDf_keys r]
theorem toDk_keys : ∀ fs : List (Key × T), (T.toDk fs).map (·.1) = fs.map (·.1)
  | [] => rfl
  | (k, t) :: r => by simp [T.toDk, toDk_keys r]
theorem toDf_vals : ∀ fs : List (Str × T), (T.toDf fs).map (·.2) = T.toDs (fs.map (·.2))
  | [] => rfl
  | (k, t) :: r => by simp [T.toDf, T.toDs, toDf_vals r]
theorem toDk_vals : ∀ fs : List (Key × T), (T.toDk fs).map (·.2) = T.toDs (fs.map (·.2))
  | [] => rfl
  | (k, t) :: r => by simp [T.toDk, T.toDs, toDk_vals r]
theorem toDs_map (ts : List T) : T.toDs ts = ts.map T.toD := by
  induction ts with
  | nil => rfl
  | cons t ts ih => simp [T.toDs, ih]
theorem toDf_map (ts : List (Str × T)) : T.toDf ts = ts.map fun p => (p.1, p.2.toD) := by
  induction ts with
  | nil => rfl
  | cons t ts ih => simp [T.toDf, ih]
theorem toDk_map (ts : List (Key × T)) : T.toDk ts = ts.map fun p => (p.1, p.2.toD) := by
  induction ts with
  | nil => rfl
  | cons t ts ih => simp [T.toDk, ih]

mutual
inductive Rp (K : PySem.W.Frag) (Z H : Hp) : T → V → List Addr → Prop
  | frz {d v} : Rz K Z d v → Rp K Z H (.frz d) v []
  | bl {ds vs a} : H a = some (.lst vs) → Z a = none → Rzs K Z ds vs → Rp K Z H (.bl ds) (.ref a) [a]
  | bd {kvs : List (Key × D)} {kvs' : List (Key × V)} {a} : H a = some (.dK kvs') → Z a = none → kvs'.map (·.1) = kvs.map (·.1) → Rzs K Z (kvs.map (·.2)) (kvs'.map (·.2)) → Rp K Z H (.bd kvs) (.ref a) [a]
  | bo {C dx} {fs : List (Str × T)} {fs' : List (Str × V)} {a F} : H a = some (.ins C dx fs') → Z a = none → fs'.map (·.1) = fs.map (·.1) → Rps K Z H (fs.map (·.2)) (fs'.map (·.2)) F → a ∉ F → Rp K Z H (.bo C fs) (.ref a) (a :: F)
  | bL {ts vs a F} : H a = some (.lst vs) → Z a = none → Rps K Z H ts vs F → a ∉ F → Rp K Z H (.bL ts) (.ref a) (a :: F)
  | bD {kvs : List (Key × T)} {kvs' : List (Key × V)} {a F} : H a = some (.dK kvs') → Z a = none → kvs'.map (·.1) = kvs.map (·.1) → Rps K Z H (kvs.map (·.2)) (kvs'.map (·.2)) F → a ∉ F → Rp K Z H (.bD kvs) (.ref a) (a :: F)
inductive Rps (K : PySem.W.Frag) (Z H : Hp) : List T → List V → List Addr → Prop
  | nil : Rps K Z H [] [] []
  | cons {t v F ts vs G} : Rp K Z H t v F → Rps K Z H ts vs G → (∀ x ∈ F, x ∉ G) → Rps K Z H (t :: ts) (v :: vs) (F ++ G)
end
mutual
theorem Rp.foot {K : PySem.W.Frag} {Z H : Hp} : ∀ {t : T} {v : V} {F : List Addr}, Rp K Z H t v F → ∀ x ∈ F, Z x = none ∧ ∃ o, H x = some o
  | _, _, _, .frz _ => fun x hx => absurd hx (by simp)
  | _, _, _, .bl h z _ => fun x hx => by rw [List.mem_singleton.mp hx]; exact ⟨z, _, h⟩
  | _, _, _, .bd h z _ _ => fun x hx => by rw [List.mem_singleton.mp hx]; exact ⟨z, _, h⟩
  | _, _, _, .bo h z _ r _ => fun x hx => by
    rcases List.mem_cons.mp hx with e | hx
    · rw [e]; exact ⟨z, _, h⟩
    · exact Rps.foot r x hx
  | _, _, _, .bL h z r _ => fun x hx => by
    rcases List.mem_cons.mp hx with e | hx
    · rw [e]; exact ⟨z, _, h⟩
    · exact Rps.foot r x hx
  | _, _, _, .bD h z _ r _ => fun x hx => by
    rcases List.mem_cons.mp hx with e | hx
    · rw [e]; exact ⟨z, _, h⟩
    · exact Rps.foot r x hx
theorem Rps.foot {K : PySem.W.Frag} {Z H : Hp} : ∀ {t : List T} {v : List V} {F : List Addr}, Rps K Z H t v F → ∀ x ∈ F, Z x = none ∧ ∃ o, H x = some o
  | _, _, _, .nil => fun x hx => absurd hx (by simp)
  | _, _, _, .cons h r _ => fun x hx => (List.mem_append.mp hx).elim (Rp.foot h x) (Rps.foot r x)
end
mutual
theorem Rp.nxd {K : PySem.W.Frag} {Z H : Hp} : ∀ {t : T} {v : V} {F : List Addr}, Rp K Z H t v F → ∀ x ∈ F, ∀ fs, H x ≠ some (.xd fs)
  | _, _, _, .frz _ => fun x hx => absurd hx (by simp)
  | _, _, _, .bl h z _ => fun x hx fs e => by rw [List.mem_singleton.mp hx, h] at e; cases e
  | _, _, _, .bd h z _ _ => fun x hx fs e => by rw [List.mem_singleton.mp hx, h] at e; cases e
  | _, _, _, .bo h z _ r _ => fun x hx fs e => by
    rcases List.mem_cons.mp hx with q | hx
    · rw [q, h] at e; cases e
    · exact Rps.nxd r x hx fs e
  | _, _, _, .bL h z r _ => fun x hx fs e => by
    rcases List.mem_cons.mp hx with q | hx
    · rw [q, h] at e; cases e
    · exact Rps.nxd r x hx fs e
  | _, _, _, .bD h z _ r _ => fun x hx fs e => by
    rcases List.mem_cons.mp hx with q | hx
    · rw [q, h] at e; cases e
    · exact Rps.nxd r x hx fs e
theorem Rps.nxd {K : PySem.W.Frag} {Z H : Hp} : ∀ {t : List T} {v : List V} {F : List Addr}, Rps K Z H t v F → ∀ x ∈ F, ∀ fs, H x ≠ some (.xd fs)
  | _, _, _, .nil => fun x hx => absurd hx (by simp)
  | _, _, _, .cons h r _ => fun x hx => (List.mem_append.mp hx).elim (Rp.nxd h x) (Rps.nxd r x)
end
mutual
theorem Rp.mono {K : PySem.W.Frag} {Z H Z' H' : Hp} (hz : Same Z Z') : ∀ {t : T} {v : V} {F : List Addr}, (∀ x ∈ F, Z' x = none ∧ H' x = H x) → Rp K Z H t v F → Rp K Z' H' t v F
  | _, _, _, _, .frz r => .frz (r.mono hz)
  | _, _, _, k, .bl h _ r => .bl ((k _ List.mem_cons_self).2.trans h) (k _ List.mem_cons_self).1 (r.mono hz)
  | _, _, _, k, .bd h _ e r => .bd ((k _ List.mem_cons_self).2.trans h) (k _ List.mem_cons_self).1 e (r.mono hz)
  | _, _, _, k, .bo h _ e r n => .bo ((k _ List.mem_cons_self).2.trans h) (k _ List.mem_cons_self).1 e (Rps.mono hz (fun x hx => k x (List.mem_cons_of_mem _ hx)) r) n
  | _, _, _, k, .bL h _ r n => .bL ((k _ List.mem_cons_self).2.trans h) (k _ List.mem_cons_self).1 (Rps.mono hz (fun x hx => k x (List.mem_cons_of_mem _ hx)) r) n
  | _, _, _, k, .bD h _ e r n => .bD ((k _ List.mem_cons_self).2.trans h) (k _ List.mem_cons_self).1 e (Rps.mono hz (fun x hx => k x (List.mem_cons_of_mem _ hx)) r) n
theorem Rps.mono {K : PySem.W.Frag} {Z H Z' H' : Hp} (hz : Same Z Z') : ∀ {t : List T} {v : List V} {F : List Addr}, (∀ x ∈ F, Z' x = none ∧ H' x = H x) → Rps K Z H t v F → Rps K Z' H' t v F
  | _, _, _, _, .nil => .nil
  | _, _, _, k, .cons h r n => .cons (Rp.mono hz (fun x hx => k x (List.mem_append_left _ hx)) h) (Rps.mono hz (fun x hx => k x (List.mem_append_right _ hx)) r) n
end
theorem ho_lst {H : Hp} {a : Addr} {xs ys : List V} (h : H a = some (.lst xs)) (g : H a = some (.lst ys)) : ys = xs := by rw [h] at g; cases g; rfl
theorem ho_dK {H : Hp} {a : Addr} {xs ys : List (Key × V)} (h : H a = some (.dK xs)) (g : H a = some (.dK ys)) : ys = xs := by rw [h] at g; cases g; rfl
theorem ho_ins {H : Hp} {a C dx D dy : Addr} {xs ys : List (Str × V)} (h : H a = some (.ins C dx xs)) (g : H a = some (.ins D dy ys)) : ys = xs := by rw [h] at g; cases g; rfl
mutual
theorem Rp.foot_eq {K : PySem.W.Frag} {Z H : Hp} : ∀ {t : T} {v : V} {F G : List Addr}, Rp K Z H t v F → Rp K Z H t v G → F = G
  | _, _, _, _, .frz _, .frz _ => rfl
  | _, _, _, _, .bl _ _ _, .bl _ _ _ => rfl
  | _, _, _, _, .bd _ _ _ _, .bd _ _ _ _ => rfl
  | _, _, _, _, .bo h _ _ r _, .bo g _ _ q _ => congrArg _ (Rps.foot_eq r (ho_ins h g ▸ q))
  | _, _, _, _, .bL h _ r _, .bL g _ q _ => congrArg _ (Rps.foot_eq r (ho_lst h g ▸ q))
  | _, _, _, _, .bD h _ _ r _, .bD g _ _ q _ => congrArg _ (Rps.foot_eq r (ho_dK h g ▸ q))
theorem Rps.foot_eq {K : PySem.W.Frag} {Z H : Hp} : ∀ {t : List T} {v : List V} {F G : List Addr}, Rps K Z H t v F → Rps K Z H t v G → F = G
  | _, _, _, _, .nil, .nil => rfl
  | _, _, _, _, .cons h r _, .cons g q _ => by rw [Rp.foot_eq h g, Rps.foot_eq r q]
end
mutual
/-- frozen -/
theorem Rp.freeze {K : PySem.W.Frag} {Z H Z' : Hp} (hz : Same Z Z') : ∀ {t : T} {v : V} {F : List Addr}, (∀ x ∈ F, Z' x = H x) → Rp K Z H t v F → Rz K Z' t.toD v
  | _, _, _, _, .frz r => r.mono hz
  | _, _, _, k, .bl h _ r => .lst ((k _ List.mem_cons_self).trans h) (r.mono hz)
  | _, _, _, k, .bd h _ e r => .dct (.inl ((k _ List.mem_cons_self).trans h)) e (r.mono hz)
  | _, _, _, k, .bo h _ e r n => .obj ((k _ List.mem_cons_self).trans h) (by rw [toDf_keys]; exact e) (by rw [toDf_vals]; exact Rps.freeze hz (fun x hx => k x (List.mem_cons_of_mem _ hx)) r)
  | _, _, _, k, .bL h _ r n => .lst ((k _ List.mem_cons_self).trans h) (Rps.freeze hz (fun x hx => k x (List.mem_cons_of_mem _ hx)) r)
  | _, _, _, k, .bD h _ e r n => .dct (.inl ((k _ List.mem_cons_self).trans h)) (by rw [toDk_keys]; exact e) (by rw [toDk_vals]; exact Rps.freeze hz (fun x hx => k x (List.mem_cons_of_mem _ hx)) r)
theorem Rps.freeze {K : PySem.W.Frag} {Z H Z' : Hp} (hz : Same Z Z') : ∀ {t : List T} {v : List V} {F : List Addr}, (∀ x ∈ F, Z' x = H x) → Rps K Z H t v F → Rzs K Z' (T.toDs t) v
  | _, _, _, _, .nil => .nil
  | _, _, _, k, .cons h r n => .cons (Rp.freeze hz (fun x hx => k x (List.mem_append_left _ hx)) h) (Rps.freeze hz (fun x hx => k x (List.mem_append_right _ hx)) r)
end

/-! ### slots -/
inductive Rsl (K : PySem.W.Frag) (Z H : Hp) : Sl → St → List Addr → Prop
  | nil : Rsl K Z H [] [] []
  | gap {x Γ σ F} : Rsl K Z H Γ σ F → Rsl K Z H (none :: Γ) (x :: σ) F
  | has {t v F Γ σ G} : Rp K Z H t v F → Rsl K Z H Γ σ G → (∀ x ∈ F, x ∉ G) → Rsl K Z H (some t :: Γ) (some v :: σ) (F ++ G)
section
variable {K : PySem.W.Frag} {Z H Z' H' : Hp} {Γ : Sl} {σ : St} {F : List Addr}
theorem Rsl.foot (r : Rsl K Z H Γ σ F) : ∀ x ∈ F, Z x = none ∧ ∃ o, H x = some o := by
  induction r with
  | nil => intro x hx; exact absurd hx (by simp)
  | gap _ ih => exact ih
  | has h _ _ ih => exact fun x hx => (List.mem_append.mp hx).elim (Rp.foot h x) (ih x)
theorem Rsl.nxd (r : Rsl K Z H Γ σ F) : ∀ x ∈ F, ∀ fs, H x ≠ some (.xd fs) := by
  induction r with
  | nil => intro x hx; exact absurd hx (by simp)
  | gap _ ih => exact ih
  | has h _ _ ih => exact fun x hx => (List.mem_append.mp hx).elim (Rp.nxd h x) (ih x)
theorem Rsl.mono (hz : Same Z Z') (r : Rsl K Z H Γ σ F) : (∀ x ∈ F, Z' x = none ∧ H' x = H x) → Rsl K Z' H' Γ σ F := by
  induction r with
  | nil => exact fun _ => .nil
  | gap _ ih => exact fun k => .gap (ih k)
  | has h _ n ih => exact fun k => .has (Rp.mono hz (fun x hx => k x (List.mem_append_left _ hx)) h) (ih fun x hx => k x (List.mem_append_right _ hx)) n
theorem Rsl.length (r : Rsl K Z H Γ σ F) : Γ.length = σ.length := by
  induction r with
  | nil => rfl
  | gap _ ih => simp [ih]
  | has _ _ _ ih => simp [ih]
/-- a slot is read: what it holds, and all the others -/
theorem Rsl.at (r : Rsl K Z H Γ σ F) : ∀ {i : Nat} {t : T}, Γ[i]? = some (some t) → ∃ v G, σ[i]? = some (some v) ∧ Rp K Z H t v G ∧ (∀ x ∈ G, x ∈ F) := by
  induction r with
  | nil => intro i t h; simp at h
  | gap _ ih =>
    intro i t h
    cases i with
    | zero => simp at h
    | succ i =>
      obtain ⟨v, G, e, q, s⟩ := ih (i := i) (by simpa using h)
      exact ⟨v, G, by simpa using e, q, s⟩
  | has hp _ n ih =>
    intro i t h
    cases i with
    | zero => simp at h; subst h; exact ⟨_, _, rfl, hp, fun x hx => List.mem_append_left _ hx⟩
    | succ i =>
      obtain ⟨v, G, e, q, s⟩ := ih (i := i) (by simpa using h)
      exact ⟨v, G, by simpa using e, q, fun x hx => List.mem_append_right _ (s x hx)⟩
/-- a slot forgotten: what it held stands apart -/
theorem Rsl.out (r : Rsl K Z H Γ σ F) : ∀ {i : Nat} {t : T}, Γ[i]? = some (some t) → ∃ v G F', σ[i]? = some (some v) ∧ Rp K Z H t v G ∧ Rsl K Z H (Γ.set i none) σ F' ∧ (∀ x, x ∈ F ↔ x ∈ G ∨ x ∈ F') ∧ (∀ x ∈ G, x ∉ F') := by
  induction r with
  | nil => intro i t h; simp at h
  | gap r ih =>
    intro i t h
    cases i with
    | zero => simp at h
    | succ i =>
      obtain ⟨v, G, F', e, q, s, m, n⟩ := ih (i := i) (by simpa using h)
      exact ⟨v, G, F', by simpa using e, q, .gap s, m, n⟩
  | @has t' v' F1 Γ σ G1 hp r n ih =>
    intro i t h
    cases i with
    | zero =>
      simp at h; subst h
      exact ⟨_, _, _, rfl, hp, .gap r, fun x => List.mem_append, n⟩
    | succ i =>
      obtain ⟨v, G, F', e, q, s, m, n'⟩ := ih (i := i) (by simpa using h)
      refine ⟨v, G, F1 ++ F', by simpa using e, q, .has hp s fun x hx hx' => n x hx ((m x).mpr (.inr hx')), fun x => ?_, fun x hx hx' => ?_⟩
      · rw [List.mem_append, List.mem_append, m]
        constructor
        · rintro (h | h | h)
          · exact .inr (.inl h)
          · exact .inl h
          · exact .inr (.inr h)
        · rintro (h | h | h)
          · exact .inr (.inl h)
          · exact .inl h
          · exact .inr (.inr h)
      · rcases List.mem_append.mp hx' with h | h
        · exact n x h ((m x).mpr (.inl hx))
        · exact n' x hx h
/-- a slot is stored -/
theorem Rsl.put (r : Rsl K Z H Γ σ F) : ∀ {i : Nat} {t : T} {v : V} {G : List Addr}, i < Γ.length → Rp K Z H t v G → (∀ x ∈ G, x ∉ F) →
    ∃ F', Rsl K Z H (Γ.set i (some t)) (σ.set i (some v)) F' ∧ ∀ x, x ∈ F' → x ∈ F ∨ x ∈ G := by
  induction r with
  | nil => intro i t v G h; simp at h
  | @gap x Γ σ F r ih =>
    intro i t v G h hp n
    cases i with
    | zero => exact ⟨G ++ F, .has hp r n, fun x hx => (List.mem_append.mp hx).elim .inr .inl⟩
    | succ i =>
      obtain ⟨F', s, m⟩ := ih (i := i) (by simpa using h) hp n
      exact ⟨F', .gap s, m⟩
  | @has t' v' F1 Γ σ G1 h1 r n1 ih =>
    intro i t v G h hp n
    cases i with
    | zero => exact ⟨G ++ G1, .has hp r fun x hx => fun hx' => n x hx (List.mem_append_right _ hx'), fun x hx => (List.mem_append.mp hx).elim .inr fun h => .inl (List.mem_append_right _ h)⟩
    | succ i =>
      obtain ⟨F', s, m⟩ := ih (i := i) (by simpa using h) hp (fun x hx hx' => n x hx (List.mem_append_right _ hx'))
      refine ⟨F1 ++ F', .has h1 s fun x hx hx' => ?_, fun x hx => ?_⟩
      · rcases m x hx' with h | h
        · exact n1 x hx h
        · exact n x h (List.mem_append_left _ hx)
      · rcases List.mem_append.mp hx with h | h
        · exact .inl (List.mem_append_left _ h)
        · rcases m x h with h | h
          · exact .inl (List.mem_append_right _ h)
          · exact .inr h
/-- the value of a slot forgotten may be anything -/
theorem Rsl.forget (r : Rsl K Z H Γ σ F) : ∀ (i : Nat), ∃ F', Rsl K Z H (Γ.set i none) σ F' ∧ ∀ x, x ∈ F' → x ∈ F := by
  induction r with
  | nil => intro i; exact ⟨[], .nil, fun x h => h⟩
  | gap r ih =>
    intro i
    cases i with
    | zero => exact ⟨_, .gap r, fun x h => h⟩
    | succ i => obtain ⟨F', s, m⟩ := ih i; exact ⟨F', .gap s, m⟩
  | @has t' v' F1 Γ σ G1 h1 r n1 ih =>
    intro i
    cases i with
    | zero => exact ⟨_, .gap r, fun x h => List.mem_append_right _ h⟩
    | succ i =>
      obtain ⟨F', s, m⟩ := ih i
      exact ⟨F1 ++ F', .has h1 s fun x hx hx' => n1 x hx (m x hx'), fun x hx => (List.mem_append.mp hx).elim (List.mem_append_left _) fun h => List.mem_append_right _ (m x h)⟩
/-- a forgotten slot may hold any value -/
theorem Rsl.any (r : Rsl K Z H Γ σ F) : ∀ {i : Nat} (y : Option V), Γ[i]? = some none → Rsl K Z H Γ (σ.set i y) F := by
  induction r with
  | nil => intro i y h; simp at h
  | gap r ih =>
    intro i y h
    cases i with
    | zero => exact .gap r
    | succ i => exact .gap (ih y (by simpa using h))
  | has h1 r n1 ih =>
    intro i y h
    cases i with
    | zero => simp at h
    | succ i => exact .has h1 (ih y (by simpa using h)) n1
end

/-! ### from state to state -/
structure Ext (Z H : Hp) (F : List Addr) (Z' H' : Hp) (F' : List Addr) : Prop where
  z : Same Z Z'
  zn : ∀ a, Z' a ≠ none → Z a ≠ none ∨ a ∈ F ∨ H a = none
  fr : ∀ a o, H a = some o → a ∉ F → H' a = some o ∧ a ∉ F'
theorem Ext.refl (Z H : Hp) (F : List Addr) : Ext Z H F Z H F := ⟨.refl _, fun _ h => .inl h, fun _ _ h n => ⟨h, n⟩⟩
theorem Ext.sub {Z H Z' H' : Hp} {F F' F'' : List Addr} (e : Ext Z H F Z' H' F') (h : ∀ x ∈ F'', x ∈ F') : Ext Z H F Z' H' F'' := ⟨e.z, e.zn, fun a o h1 h2 => ⟨(e.fr a o h1 h2).1, fun h3 => (e.fr a o h1 h2).2 (h _ h3)⟩⟩
theorem Ext.tr {Z H Z1 H1 Z2 H2 : Hp} {F F1 G F2 : List Addr} (a : Ext Z H F Z1 H1 (F1 ++ G)) (b : Ext Z1 H1 F1 Z2 H2 F2) : Ext Z H F Z2 H2 (F2 ++ G) where
  z := a.z.trans b.z
  zn := fun x h => by
    have key : H1 x = none ∨ x ∈ F1 → x ∈ F ∨ H x = none := fun h => by
      by_cases hx : x ∈ F
      · exact .inl hx
      · cases e : H x with
        | none => exact .inr rfl
        | some o =>
          obtain ⟨h1, h2⟩ := a.fr x o e hx
          rcases h with h | h
          · rw [h1] at h; cases h
          · exact absurd (List.mem_append_left _ h) h2
    rcases b.zn x h with h | h | h
    · rcases a.zn x h with h | h
      · exact .inl h
      · exact .inr h
    · exact .inr (key (.inr h))
    · exact .inr (key (.inl h))
  fr := fun x o h n => by
    obtain ⟨h1, h2⟩ := a.fr x o h n
    obtain ⟨h3, h4⟩ := b.fr x o h1 fun q => h2 (List.mem_append_left _ q)
    exact ⟨h3, fun q => (List.mem_append.mp q).elim h4 fun q => h2 (List.mem_append_right _ q)⟩
theorem Ext.trans {Z H Z1 H1 Z2 H2 : Hp} {F F1 F2 : List Addr} (a : Ext Z H F Z1 H1 F1) (b : Ext Z1 H1 F1 Z2 H2 F2) : Ext Z H F Z2 H2 F2 := by
  have := Ext.tr (G := []) (by simpa using a) b
  simpa using this
/-- a temporary value outlives what comes behind it -/
theorem Ext.keeps {K : PySem.W.Frag} {Z H Z' H' : Hp} {F F' G : List Addr} {t : T} {v : V} (e : Ext Z H F Z' H' F') (r : Rp K Z H t v G) (n : ∀ x ∈ G, x ∉ F) : Rp K Z' H' t v G ∧ ∀ x ∈ G, x ∉ F' := by
  refine ⟨r.mono e.z fun x hx => ?_, fun x hx => ?_⟩
  · obtain ⟨hz, o, ho⟩ := r.foot x hx
    refine ⟨?_, ?_⟩
    · cases q : Z' x with
      | none => rfl
      | some u =>
        rcases e.zn x (by rw [q]; simp) with h | h | h
        · exact absurd hz h
        · exact absurd h (n x hx)
        · rw [ho] at h; cases h
    · rw [ho]; exact (e.fr x o ho (n x hx)).1
  · obtain ⟨_, o, ho⟩ := r.foot x hx
    exact (e.fr x o ho (n x hx)).2
theorem Ext.keepss {K : PySem.W.Frag} {Z H Z' H' : Hp} {F F' G : List Addr} {t : List T} {v : List V} (e : Ext Z H F Z' H' F') (r : Rps K Z H t v G) (n : ∀ x ∈ G, x ∉ F) : Rps K Z' H' t v G ∧ ∀ x ∈ G, x ∉ F' := by
  refine ⟨r.mono e.z fun x hx => ?_, fun x hx => ?_⟩
  · obtain ⟨hz, o, ho⟩ := r.foot x hx
    refine ⟨?_, ?_⟩
    · cases q : Z' x with
      | none => rfl
      | some u =>
        rcases e.zn x (by rw [q]; simp) with h | h | h
        · exact absurd hz h
        · exact absurd h (n x hx)
        · rw [ho] at h; cases h
    · rw [ho]; exact (e.fr x o ho (n x hx)).1
  · obtain ⟨_, o, ho⟩ := r.foot x hx
    exact (e.fr x o ho (n x hx)).2

/-- a step that changes nothing that stood: new things only -/
structure PStep (Z H Z' H' : Hp) : Prop where
  z : Same Z Z'
  zh : Same Z' H'
  h : Same H H'
  zn : ∀ a, Z' a ≠ none → Z a ≠ none ∨ H a = none
theorem PStep.refl {Z H : Hp} (h : Same Z H) : PStep Z H Z H := ⟨.refl _, h, .refl _, fun _ h => .inl h⟩
theorem PStep.ext {Z H Z' H' : Hp} (p : PStep Z H Z' H') {F G : List Addr} (hG : ∀ x ∈ G, H x = none) : Ext Z H F Z' H' (F ++ G) :=
  ⟨p.z, fun a h => (p.zn a h).elim .inl fun h => .inr (.inr h), fun a o h n => ⟨p.h _ _ h, fun q => (List.mem_append.mp q).elim n fun q => by rw [hG a q] at h; cases h⟩⟩
theorem PStep.trans {Z H Z1 H1 Z2 H2 : Hp} (a : PStep Z H Z1 H1) (b : PStep Z1 H1 Z2 H2) : PStep Z H Z2 H2 :=
  ⟨a.z.trans b.z, b.zh, a.h.trans b.h, fun x h => by
    rcases b.zn x h with h | h
    · exact a.zn x h
    · exact .inr (a.h.free h)⟩
theorem PStep.slots {K : PySem.W.Frag} {Z H Z' H' : Hp} (p : PStep Z H Z' H') {Γ : Sl} {σ : St} {F : List Addr} (r : Rsl K Z H Γ σ F) : Rsl K Z' H' Γ σ F :=
  r.mono p.z fun x hx => by
    obtain ⟨hz, o, ho⟩ := r.foot x hx
    refine ⟨?_, by rw [ho]; exact p.h _ _ ho⟩
    cases q : Z' x with
    | none => rfl
    | some u =>
      rcases p.zn x (by rw [q]; simp) with h | h
      · exact absurd hz h
      · rw [ho] at h; cases h
theorem same_upd {H : Hp} {p : Addr} {o : HO} (h : H p = none) : Same H (upd H p o) := fun b x e => by rw [upd_ne (ne_of_none e h)]; exact e
/-- a new thing, owned -/
theorem PStep.new {Z H : Hp} (h : Same Z H) {p : Addr} {o : HO} (hp : H p = none) : PStep Z H Z (upd H p o) := ⟨.refl _, h.trans (same_upd hp), same_upd hp, fun _ h => .inl h⟩
/-- a new thing, frozen -/
theorem PStep.newz {Z H : Hp} (h : Same Z H) {p : Addr} {o : HO} (hp : H p = none) : PStep Z H (upd Z p o) (upd H p o) := by
  have zp : Z p = none := h.free hp
  refine ⟨same_upd zp, fun b x e => ?_, same_upd hp, fun a q => ?_⟩
  · by_cases hb : b = p
    · subst hb; rw [upd_same] at e ⊢; exact e
    · rw [upd_ne hb] at e ⊢; exact h _ _ e
  · by_cases ha : a = p
    · subst ha; exact .inr hp
    · rw [upd_ne ha] at q; exact .inl q
/-- Z with what is owned at F in it -/
def frzH (Z H : Hp) (F : List Addr) : Hp := fun a => if a ∈ F then H a else Z a
theorem frzH_same {Z H : Hp} {F : List Addr} (hF : ∀ x ∈ F, Z x = none) : Same Z (frzH Z H F) := fun b o e => by
  unfold frzH
  by_cases hb : b ∈ F
  · rw [hF b hb] at e; cases e
  · rw [if_neg hb]; exact e
theorem frzH_below {Z H : Hp} {F : List Addr} (h : Same Z H) : Same (frzH Z H F) H := fun b o e => by
  unfold frzH at e
  by_cases hb : b ∈ F
  · rw [if_pos hb] at e; exact e
  · rw [if_neg hb] at e; exact h _ _ e
theorem frzH_at {Z H : Hp} {F : List Addr} : ∀ x ∈ F, frzH Z H F x = H x := fun x hx => by unfold frzH; rw [if_pos hx]
theorem frzH_ne {Z H : Hp} {F : List Addr} {x : Addr} (hx : x ∉ F) : frzH Z H F x = Z x := by unfold frzH; rw [if_neg hx]
theorem frzH_zn {Z H : Hp} {F : List Addr} {x : Addr} (h : frzH Z H F x ≠ none) : Z x ≠ none ∨ x ∈ F := by
  unfold frzH at h
  by_cases hx : x ∈ F
  · exact .inr hx
  · rw [if_neg hx] at h; exact .inl h
end VL
set_option Elab.async false
set_option linter.all false
set_option autoImplicit false
set_option maxRecDepth 100000
set_option maxHeartbeats 2000000
/-! VL2: judgements over slots of trees; expressions. -/
namespace VL
open PySem PySem.Spec L2
open PyProof.Rows hiding St

abbrev XRl := Addr → List (Str × D) → Sl → Prop
abbrev ME := Sl → (T → Sl → Prop) → XRl → Prop
abbrev MT := Sl → (Bool → Sl → Prop) → XRl → Prop
abbrev MA := Sl → (List T → Sl → Prop) → XRl → Prop

section
variable (K : PySem.W.Frag)
def KOk (Z H : Hp) (F : List Addr) (σ : St) (R : T → Sl → Prop) (Q : VK) : Prop :=
  ∀ Z' H' Γ' F' r v G, Same Z' H' → Ext Z H F Z' H' (F' ++ G) → Rsl K Z' H' Γ' σ F' → Rp K Z' H' r v G → (∀ x ∈ G, x ∉ F') → R r Γ' → Q v H'
def KOkT (Z H : Hp) (F : List Addr) (σ : St) (R : Bool → Sl → Prop) (Q : Bool → Hp → Prop) : Prop :=
  ∀ Z' H' Γ' F' b, Same Z' H' → Ext Z H F Z' H' F' → Rsl K Z' H' Γ' σ F' → R b Γ' → Q b H'
def KOkA (n : Nat) (Z H : Hp) (F : List Addr) (σ : St) (R : List T → Sl → Prop) (Q : List V → Hp → Prop) : Prop :=
  ∀ Z' H' Γ' F' r v G, Same Z' H' → Ext Z H F Z' H' (F' ++ G) → Rsl K Z' H' Γ' σ F' → Rps K Z' H' r v G → (∀ x ∈ G, x ∉ F') → v.length = n → R r Γ' → Q v H'
/-- an exception's dict: none, or its fields (frozen) -/
inductive Xd (Z : Hp) : Option Addr → List (Str × D) → Prop
  | non : Xd Z none []
  | dct {dd : Addr} {fs : List (Str × D)} {fs' : List (Str × V)} : Z dd = some (.xd fs') → fs'.map (·.1) = fs.map (·.1) → Rzs K Z (fs.map (·.2)) (fs'.map (·.2)) → Xd Z (some dd) fs
def XOk (Z H : Hp) (F : List Addr) (σ : St) (XR : XRl) (W : WX) : Prop :=
  ∀ Z' H' Γ' F' C d fs, Same Z' H' → Ext Z H F Z' H' F' → Rsl K Z' H' Γ' σ F' → Xd K Z' d fs → XR C fs Γ' → W (.ref C) d σ H'
def Snd (W : WX) (t : TE) (m : ME) : Prop :=
  ∀ Z H σ Γ F R XR Q, Same Z H → Rsl K Z H Γ σ F → m Γ R XR → KOk K Z H F σ R Q → XOk K Z H F σ XR W → t σ H Q
def SndT (W : WX) (t : TT) (m : MT) : Prop :=
  ∀ Z H σ Γ F R XR Q, Same Z H → Rsl K Z H Γ σ F → m Γ R XR → KOkT K Z H F σ R Q → XOk K Z H F σ XR W → t σ H Q
def SndA (n : Nat) (W : WX) (t : TA) (m : MA) : Prop :=
  ∀ Z H σ Γ F R XR Q, Same Z H → Rsl K Z H Γ σ F → m Γ R XR → KOkA K n Z H F σ R Q → XOk K Z H F σ XR W → t σ H Q
end
structure VE (X : Cx) (W : WX) (e : Expr) (m : ME) : Prop where
  ex : ∃ t, PE X e t ∧ Snd X.K W t m
structure VT (X : Cx) (W : WX) (e : Expr) (m : MT) : Prop where
  ex : ∃ t, PT X e t ∧ SndT X.K W t m
structure VW (X : Cx) (W : WX) (e : Expr) (m : MT) : Prop where
  ex : ∃ t, PW X e t ∧ SndT X.K W t m
structure VA (X : Cx) (W : WX) (es : List Expr) (m : MA) : Prop where
  ex : ∃ t, PA X es t ∧ SndA X.K es.length W t m

section
variable {K : PySem.W.Frag} {Z H Z1 H1 : Hp} {F F1 G : List Addr} {σ : St} {R : T → Sl → Prop} {XR : XRl} {Q : VK} {W : WX} {Γ : Sl}
theorem XOk.step (x : XOk K Z H F σ XR W) (e : Ext Z H F Z1 H1 (F1 ++ G)) : XOk K Z1 H1 F1 σ XR W := fun Z' H' Γ' F' C d fs sm ex rs hd q =>
  x Z' H' Γ' F' C d fs sm ((e.tr ex).sub fun x hx => List.mem_append_left _ hx) rs hd q
theorem XOk.step0 (x : XOk K Z H F σ XR W) (e : Ext Z H F Z1 H1 F1) : XOk K Z1 H1 F1 σ XR W := XOk.step (G := []) x (by simpa using e)
/-- a pure answer -/
theorem KOk.pure (k : KOk K Z H F σ R Q) (hs : Same Z H) (rs : Rsl K Z H Γ σ F) {d : D} {v : V} (r : Rz K Z d v) (q : R (.frz d) Γ) : Q v H :=
  k Z H Γ F (.frz d) v [] hs (by simpa using Ext.refl Z H F) rs (.frz r) (fun x hx => absurd hx (by simp)) q
/-- an answer by a step that changes nothing that stood -/
theorem KOk.pstep (k : KOk K Z H F σ R Q) (rs : Rsl K Z H Γ σ F) {Z' H' : Hp} (p : PStep Z H Z' H') {t : T} {v : V} {G : List Addr} (hG : ∀ x ∈ G, H x = none) (r : Rp K Z' H' t v G) (q : R t Γ) : Q v H' :=
  k Z' H' Γ F t v G p.zh (p.ext hG) (p.slots rs) r (fun x hx hx' => by
    obtain ⟨_, o, ho⟩ := rs.foot x hx'
    rw [hG x hx] at ho; cases ho) q
/-- go on behind a temporary value -/
theorem KOk.step (k : KOk K Z H F σ R Q) (e : Ext Z H F Z1 H1 F1) : KOk K Z1 H1 F1 σ R Q := fun Z' H' Γ' F' r v G sm ex rs rp n q => k Z' H' Γ' F' r v G sm (e.trans ex) rs rp n q
end

section
variable {X : Cx} {W : WX}
/-! ### constants, names -/
def mC (d : D) : ME := fun Γ R _ => R (.frz d) Γ
theorem snd_c {d : D} {v : V} (r : ∀ Z, Rz X.K Z d v) : Snd X.K W (tC v) (mC d) := fun Z H σ Γ F R XR Q hs rs m k x => k.pure hs rs (r Z) m
theorem ve_int {i j pos} : VE X W (.Constant (.int i) j pos) (mC (.int i)) := ⟨_, pe_int, snd_c fun _ => .int i⟩
theorem ve_bl {b j pos} : VE X W (.Constant (.bool b) j pos) (mC (.bl b)) := ⟨_, pe_bl, snd_c fun _ => .bl b⟩
theorem ve_non {j pos} : VE X W (.Constant .none j pos) (mC .non) := ⟨_, pe_non, snd_c fun _ => .non⟩
theorem ve_str {x j pos} (h : PyData.strOk x = true := by decide +kernel) : VE X W (.Constant (.str x) j pos) (mC (.str x)) := ⟨_, pe_str, snd_c fun _ => .str x h⟩
theorem ve_glob {x : Str} {d : D} {v : V} {u : Value} {pos : Pos} (hg : Gl X x) (hm : X.mg x = some u) (r : RelV v u) (rz : ∀ Z, Rz X.K Z d v) (hd : (x == ("__debug__" : Str)) = false := by decide) : VE X W (.Name x pos) (mC d) :=
  ⟨_, pe_glob hg hm r hd, snd_c rz⟩

theorem frz_slots {K : PySem.W.Frag} {Z H : Hp} {F G : List Addr} {Γ : Sl} {σ : St} (rs : Rsl K Z H Γ σ F) (h0 : ∀ x ∈ G, Z x = none) (hG : ∀ x ∈ G, x ∉ F) : Rsl K (frzH Z H G) H Γ σ F :=
  rs.mono (frzH_same h0) fun x hx => by
    obtain ⟨hz, o, ho⟩ := rs.foot x hx
    exact ⟨by rw [frzH_ne fun h => hG x h hx]; exact hz, rfl⟩
/-- an owned answer frozen: go on with it -/
theorem KOk.frz {K : PySem.W.Frag} {Z H : Hp} {F F1 G : List Addr} {σ : St} {R : T → Sl → Prop} {Q : VK} {Γ : Sl} {t : T} {v : V} (k : KOk K Z H F σ R Q) (hs : Same Z H) (rs : Rsl K Z H Γ σ F1) (rp : Rp K Z H t v G) (nG : ∀ x ∈ G, x ∉ F1)
    (hF : ∀ x, x ∈ F1 ∨ x ∈ G → x ∈ F) (q : R (.frz t.toD) Γ) : Q v H := by
  have h0 : ∀ x ∈ G, Z x = none := fun x hx => (rp.foot x hx).1
  refine k (frzH Z H G) H Γ F1 (.frz t.toD) v [] (frzH_below hs) ⟨frzH_same h0, fun a h => ?_, fun a o h n => ⟨h, fun q => n (hF a (.inl (by simpa using q)))⟩⟩ (frz_slots rs h0 nG) (.frz (rp.freeze (frzH_same h0) frzH_at)) (fun x hx => absurd hx (by simp)) q
  rcases frzH_zn h with h | h
  · exact .inl h
  · exact .inr (.inl (hF a (.inr h)))
/-- a local name: what it holds is frozen, the slot stays -/
def mNm (i : Nat) : ME := fun Γ R _ => ∃ t, Γ[i]? = some (some t) ∧ R (.frz t.toD) (Γ.set i (some (.frz t.toD)))
theorem Rsl.refrz {K : PySem.W.Frag} {Z H : Hp} {F : List Addr} {Γ : Sl} {σ : St} (hs : Same Z H) (rs : Rsl K Z H Γ σ F) {i : Nat} {t : T} (e : Γ[i]? = some (some t)) :
    ∃ v G F', σ[i]? = some (some v) ∧ Rz K (frzH Z H G) t.toD v ∧ Same Z (frzH Z H G) ∧ Same (frzH Z H G) H ∧ Rsl K (frzH Z H G) H (Γ.set i (some (.frz t.toD))) σ F' ∧ (∀ x ∈ F', x ∈ F) ∧ ∀ x ∈ G, x ∈ F := by
  obtain ⟨v, G, F', ev, rp, rs', mm, nn⟩ := rs.out e
  have h0 : ∀ x ∈ G, Z x = none := fun x hx => (rp.foot x hx).1
  have rz := rp.freeze (frzH_same (H := H) h0) frzH_at
  have hi : i < (Γ.set i none).length := by
    rw [List.length_set]
    exact (List.getElem?_eq_some_iff.mp e).1
  obtain ⟨F2, rs2, m2⟩ := (frz_slots rs' h0 nn).put (i := i) (t := .frz t.toD) (v := v) (G := []) hi (.frz rz) (fun x hx => absurd hx (by simp))
  have ei : σ.set i (some v) = σ := by
    apply List.ext_getElem?
    intro j
    by_cases hj : i = j
    · subst hj
      have hl : i < σ.length := (List.getElem?_eq_some_iff.mp ev).1
      rw [List.getElem?_set_self hl, ev]
    · rw [List.getElem?_set_ne hj]
  rw [ei, List.set_set] at rs2
  exact ⟨v, G, F2, ev, rz, frzH_same h0, frzH_below hs, rs2, fun x hx => (m2 x hx).elim (fun h => (mm x).mpr (.inr h)) fun h => absurd h (by simp), fun x hx => (mm x).mpr (.inl hx)⟩
theorem snd_nm {i : Nat} : Snd X.K W (tVar i) (mNm i) := fun Z H σ Γ F R XR Q hs rs ⟨t, e, q⟩ k x => by
  obtain ⟨v, G, F2, ev, rz, s1, s2, rs2, sub, subG⟩ := rs.refrz hs e
  refine ⟨v, ev, k _ H _ F2 _ v [] s2 ⟨s1, fun a h => ?_, fun a o h n => ⟨h, fun q => n (sub a (by simpa using q))⟩⟩ rs2 (.frz rz) (fun x hx => absurd hx (by simp)) q⟩
  rcases frzH_zn h with h | h
  · exact .inl h
  · exact .inr (.inl (subG a h))
theorem ve_nm (i : Nat) {x : Str} {pos : Pos} (hN : X.N[i]? = some x := by rfl) (hv : Vis X.env.scope x := by first | exact Or.inl rfl | exact Or.inr (Or.inl rfl) | exact Or.inr (Or.inr rfl)) (hd : (x == ("__debug__" : Str)) = false := by decide)
    (hcd : (x == ("__classdict__" : Str)) = false := by decide) : VE X W (.Name x pos) (mNm i) := ⟨_, pe_var hN hv hd hcd, snd_nm⟩
/-- a local name given away: the slot is empty behind it -/
def mMv (i : Nat) : ME := fun Γ R _ => ∃ t, Γ[i]? = some (some t) ∧ R t (Γ.set i none)
theorem snd_mv {i : Nat} : Snd X.K W (tVar i) (mMv i) := fun Z H σ Γ F R XR Q hs rs ⟨t, e, q⟩ k x => by
  obtain ⟨v, G, F', ev, rp, rs', mm, nn⟩ := rs.out e
  refine ⟨v, ev, k Z H _ F' t v G hs ((Ext.refl Z H F).sub fun a ha => (mm a).mpr ((List.mem_append.mp ha).elim .inr .inl)) rs' rp nn q⟩
theorem ve_mv (i : Nat) {x : Str} {pos : Pos} (hN : X.N[i]? = some x := by rfl) (hv : Vis X.env.scope x := by first | exact Or.inl rfl | exact Or.inr (Or.inl rfl) | exact Or.inr (Or.inr rfl)) (hd : (x == ("__debug__" : Str)) = false := by decide)
    (hcd : (x == ("__classdict__" : Str)) = false := by decide) : VE X W (.Name x pos) (mMv i) := ⟨_, pe_var hN hv hd hcd, snd_mv⟩

/-! ### argument lists -/
def mA0 : MA := fun Γ R _ => R [] Γ
def mAc (m : ME) (r : MA) : MA := fun Γ R XR => m Γ (fun t Γ1 => r Γ1 (fun ts Γ2 => R (t :: ts) Γ2) XR) XR
theorem va_nil : VA X W [] mA0 := ⟨_, pa_nil, fun Z H σ Γ F R XR Q hs rs m k x => k Z H Γ F [] [] [] hs (by simpa using Ext.refl Z H F) rs .nil (fun x hx => absurd hx (by simp)) rfl m⟩
theorem va_cons {e : Expr} {es : List Expr} {m : ME} {r : MA} (h : VE X W e m) (g : VA X W es r) (hs : starEach (e :: es) X.env = (false, eval e X.env) :: starEach es X.env := by rfl) : VA X W (e :: es) (mAc m r) := by
  obtain ⟨te, pe, se⟩ := h.ex
  obtain ⟨ta, pa, sa⟩ := g.ex
  refine ⟨_, pa_cons pe pa hs, fun Z H σ Γ F R XR Q hs rs m k x => ?_⟩
  refine se Z H σ Γ F _ XR _ hs rs m (fun Z1 H1 Γ1 F1 t v G s1 e1 r1 p1 n1 q1 => ?_) x
  refine sa Z1 H1 σ Γ1 F1 _ XR _ s1 r1 q1 (fun Z2 H2 Γ2 F2 ts vs G2 s2 e2 r2 p2 n2 l2 q2 => ?_) (x.step e1)
  obtain ⟨kp, kn⟩ := e2.keeps p1 n1
  refine k Z2 H2 Γ2 F2 (t :: ts) (v :: vs) (G ++ G2) s2 ((e1.tr e2).sub fun a ha => ?_) r2 (.cons kp p2 fun a ha hb => kn a ha (List.mem_append_right _ hb)) (fun a ha hb => ?_) (by simp [l2]) q2
  · simp only [List.mem_append] at ha ⊢
    rcases ha with h | h | h
    · exact .inl (.inl h)
    · exact .inr h
    · exact .inl (.inr h)
  · rcases List.mem_append.mp ha with h | h
    · exact kn a h (List.mem_append_left _ hb)
    · exact n2 a h hb

/-! ### displays -/
theorem Rps.length {K : PySem.W.Frag} {Z H : Hp} : ∀ {ts : List T} {vs : List V} {F : List Addr}, Rps K Z H ts vs F → ts.length = vs.length
  | _, _, _, .nil => rfl
  | _, _, _, .cons _ r _ => by simp [Rps.length r]
def mTup (m : MA) : ME := fun Γ R XR => m Γ (fun ts Γ' => R (.frz (.tup (ts.map T.toD))) Γ') XR
def mLst (m : MA) : ME := fun Γ R XR => m Γ (fun ts Γ' => R (.bl (ts.map T.toD)) Γ') XR
/-- arguments frozen -/
theorem frz_args {K : PySem.W.Frag} {Z H : Hp} {F G : List Addr} {Γ : Sl} {σ : St} {ts : List T} {vs : List V} (hs : Same Z H) (rs : Rsl K Z H Γ σ F) (rp : Rps K Z H ts vs G) (n : ∀ x ∈ G, x ∉ F) :
    Same Z (frzH Z H G) ∧ Same (frzH Z H G) H ∧ Rsl K (frzH Z H G) H Γ σ F ∧ Rzs K (frzH Z H G) (ts.map T.toD) vs := by
  have h0 : ∀ x ∈ G, Z x = none := fun x hx => (rp.foot x hx).1
  exact ⟨frzH_same h0, frzH_below hs, frz_slots rs h0 n, by rw [← toDs_map]; exact rp.freeze (frzH_same h0) frzH_at⟩
theorem ext_frz {Z H Z1 H1 : Hp} {F F1 G : List Addr} (e : Ext Z H F Z1 H1 (F1 ++ G)) (h0 : ∀ x ∈ G, Z1 x = none) : Ext Z H F (frzH Z1 H1 G) H1 F1 := by
  have e' : Ext Z1 H1 (F1 ++ G) (frzH Z1 H1 G) H1 F1 := ⟨frzH_same h0, fun a h => (frzH_zn h).elim .inl fun h => .inr (.inl (List.mem_append_right _ h)), fun a o h n => ⟨h, fun q => n (List.mem_append_left _ q)⟩⟩
  exact e.trans e'
theorem ve_tup {es : List Expr} {x1} {pos : Pos} {m : MA} (h : VA X W es m) (hl : es.length ≤ 1000 := by decide) : VE X W (.Tuple es x1 pos) (mTup m) := by
  obtain ⟨ta, pa, sa⟩ := h.ex
  refine ⟨_, pe_tup pa, fun Z H σ Γ F R XR Q hs rs m k x => ?_⟩
  refine sa Z H σ Γ F _ XR _ hs rs m (fun Z1 H1 Γ1 F1 ts vs G s1 e1 r1 p1 n1 l1 q1 => ⟨by rw [l1]; exact Nat.le_of_lt (small1000 hl), fun p hp => ?_⟩) x
  obtain ⟨f1, f2, f3, f4⟩ := frz_args s1 r1 p1 n1
  have st := PStep.newz f2 (o := .tup vs) hp
  refine (k.step ((ext_frz e1 fun x hx => (p1.foot x hx).1))).pstep f3 st (G := []) (fun x hx => absurd hx (by simp)) (.frz (.tup (.inl (.inl upd_same)) (f4.mono st.z))) q1
theorem ve_lst {es : List Expr} {pos : Pos} {m : MA} (h : VA X W es m) (hl : es.length ≤ 1000 := by decide) : VE X W (.List es pos) (mLst m) := by
  obtain ⟨ta, pa, sa⟩ := h.ex
  refine ⟨_, pe_lst pa, fun Z H σ Γ F R XR Q hs rs m k x => ?_⟩
  refine sa Z H σ Γ F _ XR _ hs rs m (fun Z1 H1 Γ1 F1 ts vs G s1 e1 r1 p1 n1 l1 q1 => ⟨by rw [l1]; exact Nat.le_of_lt (small1000 hl), fun p hp => ?_⟩) x
  obtain ⟨f1, f2, f3, f4⟩ := frz_args s1 r1 p1 n1
  have st := PStep.new f2 (o := .lst vs) hp
  exact (k.step ((ext_frz e1 fun x hx => (p1.foot x hx).1))).pstep f3 st (G := [p]) (fun x hx => by rw [List.mem_singleton.mp hx]; exact hp) (.bl upd_same (f2.free hp) f4) q1
end
end VL
set_option Elab.async false
set_option linter.all false
set_option autoImplicit false
set_option maxRecDepth 100000
set_option maxHeartbeats 2000000
/-! VL3: views, operands, operators. -/
namespace VL
open PySem PySem.Spec L2
open PyProof.Rows hiding St

/-! ### views -/
inductive Vw (K : PySem.W.Frag) (Z H : Hp) : D → V → Prop
  | rz {d v} : Rz K Z d v → Vw K Z H d v
  | lst {ds vs a} : H a = some (.lst vs) → Rzs K Z ds vs → Vw K Z H (.lst ds) (.ref a)
  | dct {kvs : List (Key × D)} {kvs' : List (Key × V)} {a} : H a = some (.dK kvs') → kvs'.map (·.1) = kvs.map (·.1) → Rzs K Z (kvs.map (·.2)) (kvs'.map (·.2)) → Vw K Z H (.dct kvs) (.ref a)
def T.vw : T → (D → Prop) → Prop
  | .frz d, k => k d
  | .bl ds, k => k (.lst ds)
  | .bd kvs, k => k (.dct kvs)
  | _, _ => False
theorem vw_frz (d : D) (k : D → Prop) : (T.frz d).vw k = k d := rfl
theorem vw_bl (d : List D) (k : D → Prop) : (T.bl d).vw k = k (.lst d) := rfl
theorem vw_bd (d : List (Key × D)) (k : D → Prop) : (T.bd d).vw k = k (.dct d) := rfl
section
variable {K : PySem.W.Frag} {Z H : Hp}
theorem T.vw_ex {t : T} {k : D → Prop} (h : t.vw k) : ∃ d, t.vw (fun x => x = d) ∧ k d := by
  cases t with
  | frz d => exact ⟨d, rfl, h⟩
  | bl ds => exact ⟨_, rfl, h⟩
  | bd kvs => exact ⟨_, rfl, h⟩
  | _ => exact h.elim
theorem T.vw_mono {t : T} {k k' : D → Prop} (h : t.vw k) (f : ∀ d, k d → k' d) : t.vw k' := by
  cases t with
  | frz d => exact f _ h
  | bl ds => exact f _ h
  | bd kvs => exact f _ h
  | _ => exact h.elim
theorem Rp.view {t : T} {v : V} {F : List Addr} (r : Rp K Z H t v F) {d : D} (h : t.vw (fun x => x = d)) : Vw K Z H d v := by
  cases r with
  | frz r => cases (show _ = d from h); exact .rz r
  | bl h1 h2 h3 => cases (show _ = d from h); exact .lst h1 h3
  | bd h1 h2 h3 h4 => cases (show _ = d from h); exact .dct h1 h3 h4
  | _ => exact h.elim
theorem Vw.lstE (hs : Same Z H) {ds : List D} {v : V} (h : Vw K Z H (.lst ds) v) : ∃ a vs, v = .ref a ∧ H a = some (.lst vs) ∧ Rzs K Z ds vs := by
  cases h with
  | rz r => cases r with | lst h r => exact ⟨_, _, rfl, hs _ _ h, r⟩
  | lst h r => exact ⟨_, _, rfl, h, r⟩
theorem same_rd {Z H : Hp} (hs : Same Z H) {a : Addr} {u : HO} (h : Rd Z a u) : Rd H a u := rd_same hs _ _ h
theorem Vw.tupE (hs : Same Z H) {ds : List D} {v : V} (h : Vw K Z H (.tup ds) v) : ∃ a vs, v = .ref a ∧ SqT K H a vs ∧ Rzs K Z ds vs := by
  cases h with
  | rz r => cases r with | tup h r => exact ⟨_, _, rfl, SqT.mono (rd_same hs) h, r⟩
theorem Vw.tupZ {ds : List D} {v : V} (h : Vw K Z H (.tup ds) v) : ∃ a vs, v = .ref a ∧ SqT K Z a vs ∧ Rzs K Z ds vs := by
  cases h with
  | rz r => cases r with | tup h r => exact ⟨_, _, rfl, h, r⟩
theorem Vw.dctE (hs : Same Z H) {kvs : List (Key × D)} {v : V} (h : Vw K Z H (.dct kvs) v) : ∃ (a : Addr) (kvs' : List (Key × V)), v = .ref a ∧ Rd H a (.dK kvs') ∧ kvs'.map (·.1) = kvs.map (·.1) ∧ Rzs K Z (kvs.map (·.2)) (kvs'.map (·.2)) := by
  cases h with
  | rz r => cases r with | dct h e r => exact ⟨_, _, rfl, same_rd hs h, e, r⟩
  | dct h e r => exact ⟨_, _, rfl, .inl h, e, r⟩
theorem Vw.scrE (hs : Same Z H) {ns : List Int} {v : V} (h : Vw K Z H (.scr ns) v) : ∃ a, v = .ref a ∧ SqL K H a (ns.map V.int) := by
  cases h with
  | rz r => cases r with | scr h => exact ⟨_, rfl, SqL.mono (rd_same hs) h⟩
theorem Vw.intE {i : Int} {v : V} (h : Vw K Z H (.int i) v) : v = .int i := by cases h with | rz r => cases r; rfl
theorem Vw.blE {i : Bool} {v : V} (h : Vw K Z H (.bl i) v) : v = .bl i := by cases h with | rz r => cases r; rfl
theorem Vw.nonE {v : V} (h : Vw K Z H .non v) : v = .non := by cases h with | rz r => cases r; rfl
theorem Vw.strE {i : Str} {v : V} (h : Vw K Z H (.str i) v) : v = .str i ∧ PyData.strOk i = true := by cases h with | rz r => cases r with | str _ ok => exact ⟨rfl, ok⟩
theorem Vw.objE (hs : Same Z H) {C : Addr} {fs : List (Str × D)} {v : V} (h : Vw K Z H (.obj C fs) v) : ∃ (a dx : Addr) (fs' : List (Str × V)), v = .ref a ∧ H a = some (.ins C dx fs') ∧ fs'.map (·.1) = fs.map (·.1) ∧ Rzs K Z (fs.map (·.2)) (fs'.map (·.2)) := by
  cases h with
  | rz r => cases r with | obj h e r => exact ⟨_, _, _, rfl, hs _ _ h, e, r⟩
/-- a value is nothing exactly if its datum is -/
def D.isNon : D → Bool
  | .non => true
  | _ => false
theorem Vw.isN {d : D} {v : V} (h : Vw K Z H d v) : decide (v = .non) = d.isNon := by
  cases h with
  | rz r => cases r <;> rfl
  | lst _ _ => rfl
  | dct _ _ _ => rfl
theorem Vw.mono {Z' H' : Hp} {d : D} {v : V} (h : Vw K Z H d v) (p : PStep Z H Z' H') : Vw K Z' H' d v := by
  cases h with
  | rz r => exact .rz (r.mono p.z)
  | lst h r => exact .lst (p.h _ _ h) (r.mono p.z)
  | dct h e r => exact .dct (p.h _ _ h) e (r.mono p.z)
end

/-! ### what is wanted of an answer that changes nothing that stood -/
def PK (K : PySem.W.Frag) (Z H : Hp) (R : T → Prop) (Q : VK) : Prop :=
  ∀ Z' H' t v G, PStep Z H Z' H' → (∀ x ∈ G, H x = none) → Rp K Z' H' t v G → R t → Q v H'
section
variable {K : PySem.W.Frag} {Z H : Hp} {R : T → Prop} {Q : VK}
theorem PK.frz (k : PK K Z H R Q) (hs : Same Z H) {d : D} {v : V} (r : Rz K Z d v) (q : R (.frz d)) : Q v H := k Z H _ v [] (.refl hs) (fun x hx => absurd hx (by simp)) (.frz r) q
theorem PK.lst (k : PK K Z H R Q) (hs : Same Z H) {ds : List D} {vs : List V} (r : Rzs K Z ds vs) (q : R (.bl ds)) : ∀ p, H p = none → Q (.ref p) (upd H p (.lst vs)) := fun p hp =>
  k Z _ _ (.ref p) [p] (.new hs hp) (fun x hx => by rw [List.mem_singleton.mp hx]; exact hp) (.bl upd_same (hs.free hp) r) q
theorem PK.tup (k : PK K Z H R Q) (hs : Same Z H) {ds : List D} {vs : List V} (r : Rzs K Z ds vs) (q : R (.frz (.tup ds))) : ∀ p, H p = none → Q (.ref p) (upd H p (.tup vs)) := fun p hp =>
  k _ _ _ (.ref p) [] (.newz hs hp) (fun x hx => absurd hx (by simp)) (.frz (.tup (.inl (.inl upd_same)) (r.mono (same_upd (hs.free hp))))) q
theorem PK.dct (k : PK K Z H R Q) (hs : Same Z H) {kvs : List (Key × D)} {kvs' : List (Key × V)} (e : kvs'.map (·.1) = kvs.map (·.1)) (r : Rzs K Z (kvs.map (·.2)) (kvs'.map (·.2))) (q : R (.bd kvs)) : ∀ p, H p = none → Q (.ref p) (upd H p (.dK kvs')) := fun p hp =>
  k Z _ _ (.ref p) [p] (.new hs hp) (fun x hx => by rw [List.mem_singleton.mp hx]; exact hp) (.bd upd_same (hs.free hp) e r) q
end
theorem KOk.ofP {K : PySem.W.Frag} {Z H : Hp} {F : List Addr} {σ : St} {R : T → Sl → Prop} {Q : VK} {Γ : Sl} (k : KOk K Z H F σ R Q) (rs : Rsl K Z H Γ σ F) : PK K Z H (fun t => R t Γ) Q :=
  fun Z' H' t v G p hG r q => k.pstep rs p hG r q
theorem KOk.ofPE {K : PySem.W.Frag} {Z H Z1 H1 : Hp} {F F1 : List Addr} {σ : St} {R : T → Sl → Prop} {Q : VK} {Γ : Sl} (k : KOk K Z H F σ R Q) (e : Ext Z H F Z1 H1 F1) (rs : Rsl K Z1 H1 Γ σ F1) : PK K Z1 H1 (fun t => R t Γ) Q := (k.step e).ofP rs

/-! ### fields -/
section
variable {K : PySem.W.Frag} {Z H : Hp}
theorem Rzs.lookup {κ : Type} [BEq κ] [LawfulBEq κ] : ∀ {fs : List (κ × D)} {fs' : List (κ × V)}, fs'.map (·.1) = fs.map (·.1) → Rzs K Z (fs.map (·.2)) (fs'.map (·.2)) → ∀ {f : κ} {d : D}, fs.lookup f = some d → ∃ v, fs'.lookup f = some v ∧ Rz K Z d v
  | [], _, _, _, _, _, h => by simp at h
  | (k, d') :: fs, [], e, _, _, _, _ => by simp at e
  | (k, d') :: fs, (k', v') :: fs', e, r, f, d, h => by
    simp only [List.map_cons, List.cons.injEq] at e
    obtain ⟨rfl, e⟩ := e
    simp only [List.map_cons] at r
    cases r with
    | cons h1 r =>
      rw [List.lookup_cons] at h ⊢
      by_cases hk : (f == k') = true
      · rw [hk] at h ⊢
        simp only [Option.some.injEq] at h
        subst h
        exact ⟨_, rfl, h1⟩
      · have hk' : (f == k') = false := by simpa using hk
        rw [hk'] at h ⊢
        exact Rzs.lookup e r h
theorem Rps.lookup {κ : Type} [BEq κ] [LawfulBEq κ] : ∀ {fs : List (κ × T)} {fs' : List (κ × V)} {F : List Addr}, fs'.map (·.1) = fs.map (·.1) → Rps K Z H (fs.map (·.2)) (fs'.map (·.2)) F → ∀ {f : κ} {d : T}, fs.lookup f = some d → ∃ v G, fs'.lookup f = some v ∧ Rp K Z H d v G ∧ ∀ x ∈ G, x ∈ F
  | [], _, _, _, _, _, _, h => by simp at h
  | (k, d') :: fs, [], _, e, _, _, _, _ => by simp at e
  | (k, d') :: fs, (k', v') :: fs', _, e, r, f, d, h => by
    simp only [List.map_cons, List.cons.injEq] at e
    obtain ⟨rfl, e⟩ := e
    simp only [List.map_cons] at r
    cases r with
    | cons h1 r n =>
      rw [List.lookup_cons] at h ⊢
      by_cases hk : (f == k') = true
      · rw [hk] at h ⊢
        simp only [Option.some.injEq] at h
        subst h
        exact ⟨_, _, rfl, h1, fun x hx => List.mem_append_left _ hx⟩
      · have hk' : (f == k') = false := by simpa using hk
        rw [hk'] at h ⊢
        obtain ⟨v, G, a, b, c⟩ := Rps.lookup e r h
        exact ⟨v, G, a, b, fun x hx => List.mem_append_right _ (c x hx)⟩
end

/-! ### operands -/
inductive Opr where
  | nm (i : Nat)
  | fl (i : Nat) (Cs : List Addr) (f : Str)
  | ex (m : ME)
def slV (Γ : Sl) (i : Nat) (k : D → Prop) : Prop := match Γ[i]? with
  | some (some t) => t.vw k
  | _ => False
def atV (Γ : Sl) (i : Nat) (Cs : List Addr) (f : Str) (k : D → Prop) : Prop := match Γ[i]? with
  | some (some (.bo C fs)) => C ∈ Cs ∧ match fs.lookup f with
    | some t => t.vw k
    | none => False
  | some (some (.frz (.obj C fs))) => C ∈ Cs ∧ match fs.lookup f with
    | some d => k d
    | none => False
  | _ => False
def vwM (m : ME) (Γ : Sl) (k : D → Sl → Prop) (XR : XRl) : Prop := m Γ (fun t Γ' => t.vw fun d => k d Γ') XR
/-- one operand -/
def mO1 (op : D → (T → Prop) → Prop) : Opr → ME
  | .nm i => fun Γ R XR => slV Γ i fun d => op d fun t => R t Γ
  | .fl i Cs f => fun Γ R XR => atV Γ i Cs f fun d => op d fun t => R t Γ
  | .ex m => fun Γ R XR => vwM m Γ (fun d Γ' => op d fun t => R t Γ') XR
/-- two operands, the first one no attribute -/
def mO2 (op : D → D → (T → Prop) → Prop) : Opr → Opr → ME
  | .nm i, .nm j => fun Γ R XR => slV Γ i fun d => slV Γ j fun e => op d e fun t => R t Γ
  | .nm i, .fl j Cs f => fun Γ R XR => slV Γ i fun d => atV Γ j Cs f fun e => op d e fun t => R t Γ
  | .nm i, .ex m => fun Γ R XR => slV Γ i (fun _ => True) ∧ vwM m Γ (fun e Γ' => slV Γ' i fun d => op d e fun t => R t Γ') XR
  | .fl i Cs f, .nm j => fun Γ R XR => atV Γ i Cs f fun d => slV Γ j fun e => op d e fun t => R t Γ
  | .fl i Cs f, .fl j Cs' g => fun Γ R XR => atV Γ i Cs f fun d => atV Γ j Cs' g fun e => op d e fun t => R t Γ
  | .fl _ _ _, .ex _ => fun _ _ _ => False
  | .ex m, .nm j => fun Γ R XR => m Γ (fun t Γ' => t.vw fun d => slV Γ' j fun e => op d e fun t => R t Γ') XR
  | .ex m, .fl j Cs f => fun Γ R XR => m Γ (fun t Γ' => t.vw fun d => atV Γ' j Cs f fun e => op d e fun t => R t Γ') XR
  | .ex m, .ex m' => fun Γ R XR => m Γ (fun t Γ1 => vwM m' Γ1 (fun e Γ2 => t.vw fun d => op d e fun t => R t Γ2) XR) XR

section
variable {X : Cx} {W : WX}
def FldOk (K : PySem.W.Frag) (Cs : List Addr) (f : Str) : Prop := ∀ C ∈ Cs, Cls K C ∧ NoAttr K C f
/-- what an operand's expression is -/
inductive VO (X : Cx) (W : WX) : Expr → Opr → Prop
  | nm {e i} : PE X e (tVar i) → VO X W e (.nm i)
  | fl {e i Cs f} : FldOk X.K Cs f → PE X e (tFld X.K (tVar i) f) → VO X W e (.fl i Cs f)
  | ex {e m} : VE X W e m → VO X W e (.ex m)
theorem vo_nm (i : Nat) {x : Str} {pos : Pos} (hN : X.N[i]? = some x := by rfl) (hv : Vis X.env.scope x := by first | exact Or.inl rfl | exact Or.inr (Or.inl rfl) | exact Or.inr (Or.inr rfl)) (hd : (x == ("__debug__" : Str)) = false := by decide)
    (hcd : (x == ("__classdict__" : Str)) = false := by decide) : VO X W (.Name x pos) (.nm i) := .nm (pe_var hN hv hd hcd)
theorem vo_at (i : Nat) {Cs : List Addr} {x f : Str} {p pos : Pos} (hc : FldOk X.K Cs f) (hN : X.N[i]? = some x := by rfl) (hv : Vis X.env.scope x := by first | exact Or.inl rfl | exact Or.inr (Or.inl rfl) | exact Or.inr (Or.inr rfl)) (hd : (x == ("__debug__" : Str)) = false := by decide)
    (hcd : (x == ("__classdict__" : Str)) = false := by decide) (hb : attributeBase (.Name x p) f X.env (eval (.Name x p) X.env) = eval (.Name x p) X.env := by rfl) : VO X W (.Attribute (.Name x p) f pos) (.fl i Cs f) := .fl hc (pe_fld (pe_var hN hv hd hcd) hb)

theorem slV_at {K : PySem.W.Frag} {Z H : Hp} {Γ : Sl} {σ : St} {F : List Addr} (rs : Rsl K Z H Γ σ F) {i : Nat} {k : D → Prop} (h : slV Γ i k) : ∃ v d, σ[i]? = some (some v) ∧ Vw K Z H d v ∧ k d := by
  unfold slV at h
  split at h
  · rename_i t e
    obtain ⟨v, G, ev, rp, _⟩ := rs.at e
    obtain ⟨d, h1, h2⟩ := T.vw_ex h
    exact ⟨v, d, ev, rp.view h1, h2⟩
  · exact h.elim
theorem atV_at {K : PySem.W.Frag} {Z H : Hp} {Γ : Sl} {σ : St} {F : List Addr} (hs : Same Z H) (rs : Rsl K Z H Γ σ F) {i : Nat} {Cs : List Addr} {f : Str} (hc : FldOk K Cs f) {k : D → Prop} (h : atV Γ i Cs f k) :
    ∃ v w d, σ[i]? = some (some v) ∧ Vw K Z H d w ∧ k d ∧ ∃ (a C dx : Addr) (fs : List (Str × V)), v = .ref a ∧ H a = some (.ins C dx fs) ∧ Cls K C ∧ NoAttr K C f ∧ fs.lookup f = some w := by
  unfold atV at h
  split at h
  · rename_i C fs e
    obtain ⟨v, G, ev, rp, _⟩ := rs.at e
    obtain ⟨hC, h⟩ := h
    cases rp with
    | bo h1 h2 h3 h4 h5 =>
      split at h
      · rename_i t et
        obtain ⟨d, g1, g2⟩ := T.vw_ex h
        obtain ⟨w, G', ew, rw', _⟩ := Rps.lookup h3 h4 et
        exact ⟨_, w, d, ev, rw'.view g1, g2, _, _, _, _, rfl, h1, (hc _ hC).1, (hc _ hC).2, ew⟩
      · exact h.elim
  · rename_i C fs e
    obtain ⟨v, G, ev, rp, _⟩ := rs.at e
    obtain ⟨hC, h⟩ := h
    cases rp with
    | frz r =>
      cases r with
      | obj h1 h2 h3 =>
        split at h
        · rename_i d et
          obtain ⟨w, ew, rw'⟩ := Rzs.lookup h2 h3 et
          exact ⟨_, w, d, ev, .rz rw', h, _, _, _, _, rfl, hs _ _ h1, (hc _ hC).1, (hc _ hC).2, ew⟩
        · exact h.elim
  · exact h.elim

theorem snd_o1 {e : Expr} {o : Opr} {op : D → (T → Prop) → Prop} {r : V → Hp → VK → Prop} (h : VO X W e o)
    (hr : ∀ Z H d v R Q, Same Z H → Vw X.K Z H d v → op d R → PK X.K Z H R Q → r v H Q) : ∃ t, PE X e t ∧ Snd X.K W (fun σ H Q => t σ H fun x H1 => r x H1 Q) (mO1 op o) := by
  cases h with
  | @nm i pe =>
    refine ⟨_, pe, fun Z H σ Γ F R XR Q hs rs m k x => ?_⟩
    obtain ⟨v, d, ev, vw, q⟩ := slV_at rs m
    exact ⟨v, ev, hr Z H d v _ Q hs vw q (k.ofP rs)⟩
  | @fl i Cs f hc pe =>
    refine ⟨_, pe, fun Z H σ Γ F R XR Q hs rs m k x => ?_⟩
    obtain ⟨v, w, d, ev, vw, q, a, C, dx, fs, e1, e2, e3, e4, e5⟩ := atV_at hs rs hc m
    exact ⟨v, ev, a, C, dx, fs, w, e1, e2, e3, e4, e5, hr Z H d w _ Q hs vw q (k.ofP rs)⟩
  | @ex m ve =>
    obtain ⟨t, pe, se⟩ := ve.ex
    refine ⟨_, pe, fun Z H σ Γ F R XR Q hs rs m k x => ?_⟩
    refine se Z H σ Γ F _ XR _ hs rs m (fun Z1 H1 Γ1 F1 t v G s1 e1 r1 p1 n1 q1 => ?_) x
    obtain ⟨d, g1, g2⟩ := T.vw_ex q1
    exact hr Z1 H1 d v _ Q s1 (p1.view g1) g2 (k.ofPE (e1.sub fun _ h => List.mem_append_left _ h) r1)

theorem snd_o2 {e e' : Expr} {o o' : Opr} {op : D → D → (T → Prop) → Prop} {r : V → V → Hp → VK → Prop} (h : VO X W e o) (h' : VO X W e' o')
    (hr : ∀ Z H d v d' v' R Q, Same Z H → Vw X.K Z H d v → Vw X.K Z H d' v' → op d d' R → PK X.K Z H R Q → r v v' H Q) :
    ∃ t t', PE X e t ∧ PE X e' t' ∧ Snd X.K W (fun σ H Q => t σ H fun x H1 => t' σ H1 fun y H2 => r x y H2 Q) (mO2 op o o') := by
  cases h with
  | @nm i pe =>
    cases h' with
    | @nm j pe' =>
      refine ⟨_, _, pe, pe', fun Z H σ Γ F R XR Q hs rs m k x => ?_⟩
      obtain ⟨v, d, ev, vw, q⟩ := slV_at rs m
      obtain ⟨v', d', ev', vw', q'⟩ := slV_at rs q
      exact ⟨v, ev, v', ev', hr Z H d v d' v' _ Q hs vw vw' q' (k.ofP rs)⟩
    | @fl j Cs f hc pe' =>
      refine ⟨_, _, pe, pe', fun Z H σ Γ F R XR Q hs rs m k x => ?_⟩
      obtain ⟨v, d, ev, vw, q⟩ := slV_at rs m
      obtain ⟨v', w, d', ev', vw', q', a, C, dx, fs, e1, e2, e3, e4, e5⟩ := atV_at hs rs hc q
      exact ⟨v, ev, v', ev', a, C, dx, fs, w, e1, e2, e3, e4, e5, hr Z H d v d' w _ Q hs vw vw' q' (k.ofP rs)⟩
    | @ex m ve =>
      obtain ⟨t, pe', se⟩ := ve.ex
      refine ⟨_, _, pe, pe', fun Z H σ Γ F R XR Q hs rs m k x => ?_⟩
      obtain ⟨v, _, ev, _, _⟩ := slV_at rs m.1
      refine ⟨v, ev, se Z H σ Γ F _ XR _ hs rs m.2 (fun Z1 H1 Γ1 F1 t' v' G s1 e1 r1 p1 n1 q1 => ?_) x⟩
      obtain ⟨d', g1, g2⟩ := T.vw_ex q1
      obtain ⟨v2, d, ev2, vw, q⟩ := slV_at r1 g2
      rw [ev] at ev2
      cases ev2
      exact hr Z1 H1 d v d' v' _ Q s1 vw (p1.view g1) q (k.ofPE (e1.sub fun _ h => List.mem_append_left _ h) r1)
  | @fl i Cs f hc pe =>
    cases h' with
    | @nm j pe' =>
      refine ⟨_, _, pe, pe', fun Z H σ Γ F R XR Q hs rs m k x => ?_⟩
      obtain ⟨v, w, d, ev, vw, q, a, C, dx, fs, e1, e2, e3, e4, e5⟩ := atV_at hs rs hc m
      obtain ⟨v', d', ev', vw', q'⟩ := slV_at rs q
      exact ⟨v, ev, a, C, dx, fs, w, e1, e2, e3, e4, e5, v', ev', hr Z H d w d' v' _ Q hs vw vw' q' (k.ofP rs)⟩
    | @fl j Cs' f' hc' pe' =>
      refine ⟨_, _, pe, pe', fun Z H σ Γ F R XR Q hs rs m k x => ?_⟩
      obtain ⟨v, w, d, ev, vw, q, a, C, dx, fs, e1, e2, e3, e4, e5⟩ := atV_at hs rs hc m
      obtain ⟨v', w', d', ev', vw', q', a', C', dx', fs', e1', e2', e3', e4', e5'⟩ := atV_at hs rs hc' q
      exact ⟨v, ev, a, C, dx, fs, w, e1, e2, e3, e4, e5, v', ev', a', C', dx', fs', w', e1', e2', e3', e4', e5', hr Z H d w d' w' _ Q hs vw vw' q' (k.ofP rs)⟩
    | @ex m ve =>
      obtain ⟨t, pe', se⟩ := ve.ex
      exact ⟨_, _, pe, pe', fun Z H σ Γ F R XR Q hs rs m k x => m.elim⟩
  | @ex m ve =>
    obtain ⟨t, pe, se⟩ := ve.ex
    cases h' with
    | @nm j pe' =>
      refine ⟨_, _, pe, pe', fun Z H σ Γ F R XR Q hs rs m k x => ?_⟩
      refine se Z H σ Γ F _ XR _ hs rs m (fun Z1 H1 Γ1 F1 t v G s1 e1 r1 p1 n1 q1 => ?_) x
      obtain ⟨d, g1, g2⟩ := T.vw_ex q1
      obtain ⟨v', d', ev', vw', q'⟩ := slV_at r1 g2
      exact ⟨v', ev', hr Z1 H1 d v d' v' _ Q s1 (p1.view g1) vw' q' (k.ofPE (e1.sub fun _ h => List.mem_append_left _ h) r1)⟩
    | @fl j Cs f hc pe' =>
      refine ⟨_, _, pe, pe', fun Z H σ Γ F R XR Q hs rs m k x => ?_⟩
      refine se Z H σ Γ F _ XR _ hs rs m (fun Z1 H1 Γ1 F1 t v G s1 e1 r1 p1 n1 q1 => ?_) x
      obtain ⟨d, g1, g2⟩ := T.vw_ex q1
      obtain ⟨v', w, d', ev', vw', q', a, C, dx, fs, e1', e2, e3, e4, e5⟩ := atV_at s1 r1 hc g2
      exact ⟨v', ev', a, C, dx, fs, w, e1', e2, e3, e4, e5, hr Z1 H1 d v d' w _ Q s1 (p1.view g1) vw' q' (k.ofPE (e1.sub fun _ h => List.mem_append_left _ h) r1)⟩
    | @ex m' ve' =>
      obtain ⟨t', pe', se'⟩ := ve'.ex
      refine ⟨_, _, pe, pe', fun Z H σ Γ F R XR Q hs rs m k x => ?_⟩
      refine se Z H σ Γ F _ XR _ hs rs m (fun Z1 H1 Γ1 F1 t v G s1 e1 r1 p1 n1 q1 => ?_) x
      refine se' Z1 H1 σ Γ1 F1 _ XR _ s1 r1 q1 (fun Z2 H2 Γ2 F2 t2 v2 G2 s2 e2 r2 p2 n2 q2 => ?_) (x.step e1)
      obtain ⟨d', g1, g2⟩ := T.vw_ex q2
      obtain ⟨d, g3, g4⟩ := T.vw_ex g2
      obtain ⟨kp, _⟩ := e2.keeps p1 n1
      exact hr Z2 H2 d v d' v2 _ Q s2 (kp.view g3) (p2.view g1) g4 (k.ofPE ((e1.tr e2).sub fun _ h => List.mem_append_left _ (List.mem_append_left _ h)) r2)
/-- an operand's view -/
def oV : Opr → Sl → (D → Sl → Prop) → XRl → Prop
  | .nm i, Γ, k, _ => slV Γ i fun d => k d Γ
  | .fl i Cs f, Γ, k, _ => atV Γ i Cs f fun d => k d Γ
  | .ex m, Γ, k, XR => vwM m Γ k XR
theorem vo_view {e : Expr} {o : Opr} (h : VO X W e o) : ∃ t, PE X e t ∧ ∀ Z H σ Γ F (k : D → Sl → Prop) XR (Q : VK), Same Z H → Rsl X.K Z H Γ σ F → oV o Γ k XR →
    (∀ Z' H' Γ' F' d v, Same Z' H' → Ext Z H F Z' H' F' → Rsl X.K Z' H' Γ' σ F' → Vw X.K Z' H' d v → k d Γ' → Q v H') → XOk X.K Z H F σ XR W → t σ H Q := by
  cases h with
  | @nm i pe =>
    refine ⟨_, pe, fun Z H σ Γ F k XR Q hs rs m q x => ?_⟩
    obtain ⟨v, d, ev, vw, g⟩ := slV_at rs m
    exact ⟨v, ev, q Z H Γ F d v hs (.refl ..) rs vw g⟩
  | @fl i Cs f hc pe =>
    refine ⟨_, pe, fun Z H σ Γ F k XR Q hs rs m q x => ?_⟩
    obtain ⟨v, w, d, ev, vw, g, a, C, dx, fs, e1, e2, e3, e4, e5⟩ := atV_at hs rs hc m
    exact ⟨v, ev, a, C, dx, fs, w, e1, e2, e3, e4, e5, q Z H Γ F d w hs (.refl ..) rs vw g⟩
  | @ex m ve =>
    obtain ⟨t, pe, se⟩ := ve.ex
    refine ⟨_, pe, fun Z H σ Γ F k XR Q hs rs m q x => ?_⟩
    refine se Z H σ Γ F _ XR _ hs rs m (fun Z1 H1 Γ1 F1 t v G s1 e1 r1 p1 n1 q1 => ?_) x
    obtain ⟨d, g1, g2⟩ := T.vw_ex q1
    exact q Z1 H1 Γ1 F1 d v s1 (e1.sub fun _ h => List.mem_append_left _ h) r1 (p1.view g1) g2
end
end VL
set_option Elab.async false
set_option linter.all false
set_option autoImplicit false
set_option maxRecDepth 100000
set_option maxHeartbeats 2000000
/-! VL4: operators, comparisons, tests, calls of built-ins by operands. -/
namespace VL
open PySem PySem.Spec L2
open PyProof.Rows hiding St

def OpV (X : Cx) (f : Value → Value → Sem Value) (op : D → D → (T → Prop) → Prop) : Prop :=
  ∃ r : R2, OpR X f r ∧ ∀ Z H d v d' v' R Q, Same Z H → Vw X.K Z H d v → Vw X.K Z H d' v' → op d d' R → PK X.K Z H R Q → r v v' H Q
def UnV (X : Cx) (f : Value → Sem Value) (op : D → (T → Prop) → Prop) : Prop :=
  ∃ r : V → Hp → VK → Prop, UnR X f r ∧ ∀ Z H d v R Q, Same Z H → Vw X.K Z H d v → op d R → PK X.K Z H R Q → r v H Q
def CallV1 (X : Cx) (f : Value) (op : D → (T → Prop) → Prop) : Prop :=
  ∃ r : List V → Hp → VK → Prop, CallR X f r ∧ ∀ Z H d v R Q, Same Z H → Vw X.K Z H d v → op d R → PK X.K Z H R Q → r [v] H Q
def CallV2 (X : Cx) (f : Value) (op : D → D → (T → Prop) → Prop) : Prop :=
  ∃ r : List V → Hp → VK → Prop, CallR X f r ∧ ∀ Z H d v d' v' R Q, Same Z H → Vw X.K Z H d v → Vw X.K Z H d' v' → op d d' R → PK X.K Z H R Q → r [v, v'] H Q
section
variable {X : Cx} {W : WX}
theorem OpV.or {f : Value → Value → Sem Value} {a b : D → D → (T → Prop) → Prop} (h : OpV X f a) (g : OpV X f b) : OpV X f (fun d e R => a d e R ∨ b d e R) := by
  obtain ⟨r, h1, h2⟩ := h
  obtain ⟨r', g1, g2⟩ := g
  exact ⟨_, h1.or g1, fun Z H d v d' v' R Q hs w w' q k => q.elim (fun q => .inl (h2 Z H d v d' v' R Q hs w w' q k)) fun q => .inr (g2 Z H d v d' v' R Q hs w w' q k)⟩
theorem CallV1.or {f : Value} {a b : D → (T → Prop) → Prop} (h : CallV1 X f a) (g : CallV1 X f b) : CallV1 X f (fun d R => a d R ∨ b d R) := by
  obtain ⟨r, h1, h2⟩ := h
  obtain ⟨r', g1, g2⟩ := g
  exact ⟨_, h1.or g1, fun Z H d v R Q hs w q k => q.elim (fun q => .inl (h2 Z H d v R Q hs w q k)) fun q => .inr (g2 Z H d v R Q hs w q k)⟩
/-! ### the forms of expressions -/
theorem ve_op {op : Operator} {o : D → D → (T → Prop) → Prop} {a b : Expr} {oa ob : Opr} {pos : Pos} (h : OpV X (binaryOp op) o) (ha : VO X W a oa) (hb : VO X W b ob) : VE X W (.BinOp a op b pos) (mO2 o oa ob) := by
  obtain ⟨r, h1, h2⟩ := h
  obtain ⟨t, t', pe, pe', sn⟩ := snd_o2 ha hb h2
  exact ⟨_, pe_op h1 pe pe', sn⟩
theorem ve_un {op : UnaryOp} {o : D → (T → Prop) → Prop} {a : Expr} {oa : Opr} {pos : Pos} (h : UnV X (unaryOp op) o) (ha : VO X W a oa) : VE X W (.UnaryOp op a pos) (mO1 o oa) := by
  obtain ⟨r, h1, h2⟩ := h
  obtain ⟨t, pe, sn⟩ := snd_o1 ha h2
  exact ⟨_, pe_un h1 pe, sn⟩
theorem ve_cmp {op : CmpOp} {o : D → D → (T → Prop) → Prop} {a b : Expr} {oa ob : Opr} {pos : Pos} (h : OpV X (compareOp op) o) (ha : VO X W a oa) (hb : VO X W b ob) (hm : behindInMarks op b = false := by first | exact nomark _ | rfl | with_unfolding_all rfl) : VE X W (.Compare a [op] [b] pos) (mO2 o oa ob) := by
  obtain ⟨r, h1, h2⟩ := h
  obtain ⟨t, t', pe, pe', sn⟩ := snd_o2 ha hb h2
  exact ⟨_, pe_cmpR h1 pe pe' hm, sn⟩
/-- a value that is a bool, as a test -/
def mTst (m : ME) : MT := fun Γ R XR => m Γ (fun t Γ' => ∃ b, t = .frz (.bl b) ∧ R b Γ') XR
theorem snd_tst {t : TE} {m : ME} (h : Snd X.K W t m) : SndT X.K W (tTest t) (mTst m) := fun Z H σ Γ F R XR Q hs rs q k x =>
  h Z H σ Γ F _ XR _ hs rs q (fun Z' H' Γ' F' r v G s1 e1 r1 p1 n1 ⟨b, eb, q1⟩ => by
    subst eb
    cases p1 with
    | frz rz => cases rz; exact ⟨b, rfl, k Z' H' Γ' F' b s1 (e1.sub fun _ h => List.mem_append_left _ h) r1 q1⟩) x
theorem vt_cmp {op : CmpOp} {o : D → D → (T → Prop) → Prop} {a b : Expr} {oa ob : Opr} {pos : Pos} (h : OpV X (compareOp op) o) (ha : VO X W a oa) (hb : VO X W b ob) (hm : behindInMarks op b = false := by first | exact nomark _ | rfl | with_unfolding_all rfl) : VT X W (.Compare a [op] [b] pos) (mTst (mO2 o oa ob)) := by
  obtain ⟨r, h1, h2⟩ := h
  obtain ⟨t, t', pe, pe', sn⟩ := snd_o2 ha hb h2
  exact ⟨_, pt_cmpR h1 pe pe' hm, snd_tst sn⟩
theorem ve_b1 {id : String} {o : D → (T → Prop) → Prop} {x : Str} {p pos : Pos} {a : Expr} {oa : Opr} (h : CallV1 X (.builtin id) o) (hg : Gl X x) (hm : X.mg x = none) (hv : bootBuiltins x = some (.builtin id)) (ha : VO X W a oa)
    (hs : starEach [a] X.env = (false, eval a X.env) :: starEach [] X.env := by rfl) (hn : x ≠ "__name__" := by decide) (hdb : (x == ("__debug__" : Str)) = false := by decide) (hpl : (backTo pos (starEach [] X.env)).any (·.1) = false := by rfl) : VE X W (.Call (.Name x p) [a] [] pos) (mO1 o oa) := by
  obtain ⟨r, h1, h2⟩ := h
  obtain ⟨t, pe, sn⟩ := snd_o1 ha h2
  exact ⟨_, pe_callB h1 hg hm hv (pa_cons pe pa_nil hs) hn hdb hs hpl, sn⟩
theorem ve_ty1 {id : String} {o : D → (T → Prop) → Prop} {x : Str} {p pos : Pos} {a : Expr} {oa : Opr} (h : CallV1 X (.type id) o) (hg : Gl X x) (hm : X.mg x = none) (hv : bootBuiltins x = some (.type id)) (ha : VO X W a oa)
    (hs : starEach [a] X.env = (false, eval a X.env) :: starEach [] X.env := by rfl) (hn : x ≠ "__name__" := by decide) (hdb : (x == ("__debug__" : Str)) = false := by decide) (hpl : (backTo pos (starEach [] X.env)).any (·.1) = false := by rfl) : VE X W (.Call (.Name x p) [a] [] pos) (mO1 o oa) := by
  obtain ⟨r, h1, h2⟩ := h
  obtain ⟨t, pe, sn⟩ := snd_o1 ha h2
  exact ⟨_, pe_callTy h1 hg hm hv (pa_cons pe pa_nil hs) hn hdb hs hpl, sn⟩
theorem ve_b2 {id : String} {o : D → D → (T → Prop) → Prop} {x : Str} {p pos : Pos} {a b : Expr} {oa ob : Opr} (h : CallV2 X (.builtin id) o) (hg : Gl X x) (hm : X.mg x = none) (hv : bootBuiltins x = some (.builtin id)) (ha : VO X W a oa) (hb : VO X W b ob)
    (hs : starEach [a, b] X.env = (false, eval a X.env) :: starEach [b] X.env := by rfl) (hs' : starEach [b] X.env = (false, eval b X.env) :: starEach [] X.env := by rfl) (hn : x ≠ "__name__" := by decide) (hdb : (x == ("__debug__" : Str)) = false := by decide) (hpl : (backTo pos (starEach [b] X.env)).any (·.1) = false := by rfl) :
    VE X W (.Call (.Name x p) [a, b] [] pos) (mO2 o oa ob) := by
  obtain ⟨r, h1, h2⟩ := h
  obtain ⟨t, t', pe, pe', sn⟩ := snd_o2 ha hb h2
  exact ⟨_, pe_callB h1 hg hm hv (pa_cons pe (pa_cons pe' pa_nil hs') hs) hn hdb hs hpl, sn⟩

/-! ### operators -/
def oInt (C : Int → Int → Prop) (g : Int → Int → Int) : D → D → (T → Prop) → Prop := fun d e R => ∃ i j, d = .int i ∧ e = .int j ∧ C i j ∧ R (.frz (.int (g i j)))
theorem opv_int {f : Value → Value → Sem Value} {C : Int → Int → Prop} {g : Int → Int → Int} (h : OpR X f (rI C fun i j => .int (g i j))) : OpV X f (oInt C g) :=
  ⟨_, h, fun Z H d v d' v' R Q hs w w' ⟨i, j, e1, e2, c, q⟩ k => by subst e1; subst e2; rw [w.intE, w'.intE]; exact ⟨i, j, rfl, rfl, c, k.frz hs (.int _) q⟩⟩
theorem opr_i0 {f : Value → Value → Sem Value} {g : Int → Int → V} (h : OpR X f (rI0 g)) : OpR X f (rI (fun _ _ => True) g) := fun pins s σ H x y v u Q I rx ry ⟨i, j, a, b, _, q⟩ => h pins s σ H x y v u Q I rx ry ⟨i, j, a, b, q⟩
def oIB (g : Int → Int → Bool) : D → D → (T → Prop) → Prop := fun d e R => ∃ i j, d = .int i ∧ e = .int j ∧ R (.frz (.bl (g i j)))
theorem opv_ib {f : Value → Value → Sem Value} {g : Int → Int → Bool} (h : OpR X f (rI0 fun i j => .bl (g i j))) : OpV X f (oIB g) :=
  ⟨_, h, fun Z H d v d' v' R Q hs w w' ⟨i, j, e1, e2, q⟩ k => by subst e1; subst e2; rw [w.intE, w'.intE]; exact ⟨i, j, rfl, rfl, k.frz hs (.bl _) q⟩⟩
abbrev oLt := oIB fun i j => decide (i < j)
abbrev oLe := oIB fun i j => decide (i ≤ j)
abbrev oGt := oIB fun i j => decide (j < i)
abbrev oGe := oIB fun i j => decide (j ≤ i)
theorem ov_lt : OpV X (compareOp .Lt) oLt := opv_ib op_lt
theorem ov_le : OpV X (compareOp .LtE) oLe := opv_ib op_le
theorem ov_gt : OpV X (compareOp .Gt) oGt := opv_ib op_gt
theorem ov_ge : OpV X (compareOp .GtE) oGe := opv_ib op_ge
abbrev oSub := oInt (fun _ _ => True) fun i j => i - j
abbrev oFdiv := oInt CDivW fun i j => i / j
abbrev oMod := oInt (fun _ j => 0 < j) fun i j => i % j
abbrev oPow := oInt CPow fun i j => i ^ j.toNat
theorem ov_sub : OpV X (binaryOp .Sub) oSub := opv_int (opr_i0 op_sub)
theorem ov_fdiv : OpV X (binaryOp .FloorDiv) oFdiv := opv_int op_fdivW
theorem ov_mod : OpV X (binaryOp .Mod) oMod := opv_int op_mod
theorem ov_pow : OpV X (binaryOp .Pow) oPow := opv_int op_pow
theorem strOk_append {a b : Str} (h : PyData.strOk a = true) (g : PyData.strOk b = true) : PyData.strOk (a ++ b) = true := by
  show ((a.cps ++ b.cps).all _) = true
  rw [Array.all_append]
  exact Bool.and_eq_true_iff.mpr ⟨h, g⟩
def oAddStr : D → D → (T → Prop) → Prop := fun d e R => ∃ a b, d = .str a ∧ e = .str b ∧ a.length + b.length ≤ sizeLine ∧ R (.frz (.str (a ++ b)))
theorem ov_addStr : OpV X (binaryOp .Add) oAddStr :=
  ⟨_, op_add_str, fun Z H d v d' v' R Q hs w w' ⟨i, j, e1, e2, c, q⟩ k => by subst e1; subst e2; rw [w.strE.1, w'.strE.1]; exact ⟨i, j, rfl, rfl, c, k.frz hs (.str _ (strOk_append w.strE.2 w'.strE.2)) q⟩⟩
def oCat : D → D → (T → Prop) → Prop := fun d e R => ∃ a b, d = .lst a ∧ e = .lst b ∧ a.length + b.length ≤ sizeLine ∧ R (.bl (a ++ b))
theorem ov_cat : OpV X (binaryOp .Add) oCat :=
  ⟨_, op_cat, fun Z H d v d' v' R Q hs w w' ⟨i, j, e1, e2, c, q⟩ k => by
    subst e1; subst e2
    obtain ⟨a, vs, rfl, h1, r1⟩ := w.lstE hs
    obtain ⟨b, ws, rfl, h2, r2⟩ := w'.lstE hs
    exact ⟨a, b, vs, ws, rfl, rfl, h1, h2, by rw [← r1.length, ← r2.length]; exact c, k.lst hs (r1.append r2) q⟩⟩
def oCatT : D → D → (T → Prop) → Prop := fun d e R => ∃ a b, d = .tup a ∧ e = .tup b ∧ a.length + b.length ≤ sizeLine ∧ R (.frz (.tup (a ++ b)))
theorem ov_catT : OpV X (binaryOp .Add) oCatT :=
  ⟨_, op_catA, fun Z H d v d' v' R Q hs w w' ⟨i, j, e1, e2, c, q⟩ k => by
    subst e1; subst e2
    obtain ⟨a, vs, rfl, h1, r1⟩ := w.tupZ
    obtain ⟨b, ws, rfl, h2, r2⟩ := w'.tupZ
    refine ⟨a, b, vs, ws, rfl, rfl, SqT.mono (rd_same hs) h1, SqT.mono (rd_same hs) h2, by rw [← r1.length, ← r2.length]; exact c, fun e => ?_, fun _ e => ?_, fun _ _ => k.tup hs (r1.append r2) q⟩
    · subst e
      cases r1
      exact k.frz hs (.tup h2 r2) q
    · subst e
      cases r2
      rw [List.append_nil] at q
      exact k.frz hs (.tup h1 r1) q⟩
def oAdd : D → D → (T → Prop) → Prop := fun d e R => oInt (fun _ _ => True) (fun i j => i + j) d e R ∨ oAddStr d e R ∨ oCat d e R ∨ oCatT d e R
theorem ov_add : OpV X (binaryOp .Add) oAdd := (opv_int (opr_i0 op_add)).or (ov_addStr.or (ov_cat.or ov_catT))
def oRep : D → D → (T → Prop) → Prop := fun d e R => ∃ a k, d = .lst a ∧ e = .int k ∧ -(2 ^ 63) ≤ k ∧ k < 2 ^ 63 ∧ a.length * k.toNat ≤ sizeLine ∧ R (.bl (List.replicate k.toNat a).flatten)
theorem rzs_rep {K : PySem.W.Frag} {Z : Hp} {ds : List D} {vs : List V} (r : Rzs K Z ds vs) : ∀ n, Rzs K Z (List.replicate n ds).flatten (List.replicate n vs).flatten
  | 0 => .nil
  | n + 1 => by
    rw [List.replicate_succ, List.replicate_succ, List.flatten_cons, List.flatten_cons]
    exact r.append (rzs_rep r n)
theorem ov_rep : OpV X (binaryOp .Mult) oRep :=
  ⟨_, op_rep, fun Z H d v d' v' R Q hs w w' ⟨i, j, e1, e2, c1, c2, c3, q⟩ k => by
    subst e1; subst e2
    obtain ⟨a, vs, rfl, h1, r1⟩ := w.lstE hs
    rw [w'.intE]
    exact ⟨a, j, vs, rfl, rfl, h1, c1, c2, by rw [← r1.length]; exact c3, k.lst hs (rzs_rep r1 _) q⟩⟩
def oMul : D → D → (T → Prop) → Prop := fun d e R => oInt CMulW (fun i j => i * j) d e R ∨ oRep d e R
theorem ov_mul : OpV X (binaryOp .Mult) oMul := (opv_int op_mulW).or ov_rep
def oNeg : D → (T → Prop) → Prop := fun d R => ∃ i, d = .int i ∧ R (.frz (.int (-i)))
theorem ov_neg : UnV X (unaryOp .USub) oNeg := ⟨_, un_neg, fun Z H d v R Q hs w ⟨i, e, q⟩ k => by subst e; rw [w.intE]; exact ⟨i, rfl, k.frz hs (.int _) q⟩⟩
/-- is None, is not None -/
def oIsN : D → D → (T → Prop) → Prop := fun d e R => e = .non ∧ R (.frz (.bl d.isNon))
def oNotN : D → D → (T → Prop) → Prop := fun d e R => e = .non ∧ R (.frz (.bl (!d.isNon)))
theorem ov_isN : OpV X (compareOp .Is) oIsN := ⟨_, op_isN, fun Z H d v d' v' R Q hs w w' ⟨e, q⟩ k => by subst e; exact ⟨w'.nonE, by rw [w.isN]; exact k.frz hs (.bl _) q⟩⟩
theorem ov_notN : OpV X (compareOp .IsNot) oNotN := ⟨_, op_notN, fun Z H d v d' v' R Q hs w w' ⟨e, q⟩ k => by subst e; exact ⟨w'.nonE, by rw [w.isN]; exact k.frz hs (.bl _) q⟩⟩
end

/-! ### equality of data -/
mutual
def D.py : D → Option PyData
  | .non => some .none
  | .bl b => some (.bool b)
  | .int i => some (.int i)
  | .str s => some (.str s)
  | .lst ds => match D.pys ds with
    | some ps => some (.list ps)
    | none => none
  | .tup ds => match D.pys ds with
    | some ps => some (.tuple ps)
    | none => none
  | _ => none
def D.pys : List D → Option (List PyData)
  | [] => some []
  | d :: ds => match D.py d, D.pys ds with
    | some p, some ps => some (p :: ps)
    | _, _ => none
end
mutual
theorem Rz.dp {K : PySem.W.Frag} {Z H : Hp} (hs : Same Z H) : ∀ {d : D} {v : V}, Rz K Z d v → ∀ {p : PyData}, d.py = some p → Dp K H v p ∧ p.canLay0 = true
  | _, _, .non, p, e => by simp only [D.py, Option.some.injEq] at e; subst e; exact ⟨.non, rfl⟩
  | _, _, .bl b, p, e => by simp only [D.py, Option.some.injEq] at e; subst e; exact ⟨.bl b, rfl⟩
  | _, _, .int i, p, e => by simp only [D.py, Option.some.injEq] at e; subst e; exact ⟨.int i, rfl⟩
  | _, _, .str s ok, p, e => by simp only [D.py, Option.some.injEq] at e; subst e; exact ⟨.str s, ok⟩
  | _, _, .ref a, p, e => by simp [D.py] at e
  | _, _, .ty n, p, e => by simp [D.py] at e
  | _, _, .scr h, p, e => by simp [D.py] at e
  | _, _, .dct h g r, p, e => by simp [D.py] at e
  | _, _, .obj h g r, p, e => by simp [D.py] at e
  | _, _, .exc0, p, e => by simp [D.py] at e
  | _, _, .excd h g r, p, e => by simp [D.py] at e
  | .lst ds, _, .lst h r, p, e => by
    simp only [D.py] at e
    split at e
    · rename_i ps eps
      simp only [Option.some.injEq] at e
      subst e
      obtain ⟨a, b⟩ := Rzs.dp hs r eps
      exact ⟨.lst (.inl (.inl (hs _ _ h))) a, b⟩
    · cases e
  | .tup ds, _, .tup h r, p, e => by
    simp only [D.py] at e
    split at e
    · rename_i ps eps
      simp only [Option.some.injEq] at e
      subst e
      obtain ⟨a, b⟩ := Rzs.dp hs r eps
      exact ⟨.tup (SqT.mono (rd_same hs) h) a, b⟩
    · cases e
theorem Rzs.dp {K : PySem.W.Frag} {Z H : Hp} (hs : Same Z H) : ∀ {d : List D} {v : List V}, Rzs K Z d v → ∀ {p : List PyData}, D.pys d = some p → DpAll K H v p ∧ PyData.canLayAll0 p = true
  | _, _, .nil, p, e => by simp only [D.pys, Option.some.injEq] at e; subst e; exact ⟨.nil, rfl⟩
  | d :: ds, _, .cons h r, p, e => by
    simp only [D.pys] at e
    split at e
    · rename_i q qs e1 e2
      simp only [Option.some.injEq] at e
      subst e
      obtain ⟨a, b⟩ := Rz.dp hs h e1
      obtain ⟨a', b'⟩ := Rzs.dp hs r e2
      exact ⟨.cons a a', by rw [PyData.canLayAll0, b, b']; rfl⟩
    · cases e
end
theorem Vw.dp {K : PySem.W.Frag} {Z H : Hp} (hs : Same Z H) {d : D} {v : V} (w : Vw K Z H d v) {p : PyData} (e : d.py = some p) : Dp K H v p ∧ p.canLay0 = true := by
  cases w with
  | rz r => exact r.dp hs e
  | lst h r =>
    simp only [D.py] at e
    split at e
    · rename_i ps eps
      simp only [Option.some.injEq] at e
      subst e
      obtain ⟨a, b⟩ := r.dp hs eps
      exact ⟨.lst (.inl (.inl h)) a, b⟩
    · cases e
  | dct h g r => simp [D.py] at e
/-- == of data: what it takes, what it says -/
def Eqb (d : D) : Prop := ∃ p, d.py = some p ∧ p.depth ≤ 64
def eqD (d e : D) : Bool := match d.py, e.py with
  | some p, some q => PyData.eqv p q
  | _, _ => false
def oEq : D → D → (T → Prop) → Prop := fun d e R => Eqb d ∧ Eqb e ∧ R (.frz (.bl (eqD d e)))
def oNe : D → D → (T → Prop) → Prop := fun d e R => Eqb d ∧ Eqb e ∧ R (.frz (.bl (!eqD d e)))
section
variable {X : Cx} {W : WX}
theorem shaped_of {p : PyData} (h : p.canLay0 = true) (g : p.depth ≤ 64) : SeqAt.shaped p = true := by
  unfold SeqAt.shaped
  rw [h, decide_eq_true g]; rfl
theorem ov_eq (hu : X.A.units + 64 < cLine) : OpV X (compareOp .Eq) oEq := ⟨_, op_eqD hu, fun Z H d v d' v' R Q hs w w' ⟨⟨p, e1, g1⟩, ⟨p', e2, g2⟩, q⟩ k => by
  obtain ⟨a, b⟩ := w.dp hs e1
  obtain ⟨a', b'⟩ := w'.dp hs e2
  unfold eqD at q
  rw [e1, e2] at q
  exact ⟨p, p', a, a', shaped_of b g1, shaped_of b' g2, k.frz hs (.bl _) q⟩⟩
theorem ov_ne (hu : X.A.units + 64 < cLine) : OpV X (compareOp .NotEq) oNe := ⟨_, op_neD hu, fun Z H d v d' v' R Q hs w w' ⟨⟨p, e1, g1⟩, ⟨p', e2, g2⟩, q⟩ k => by
  obtain ⟨a, b⟩ := w.dp hs e1
  obtain ⟨a', b'⟩ := w'.dp hs e2
  unfold eqD at q
  rw [e1, e2] at q
  exact ⟨p, p', a, a', shaped_of b g1, shaped_of b' g2, k.frz hs (.bl _) q⟩⟩
end
end VL
set_option Elab.async false
set_option linter.all false
set_option autoImplicit false
set_option maxRecDepth 100000
set_option maxHeartbeats 2000000
/-! VL5: in, subscripts, slices, attributes; built-in calls and methods that change nothing. -/
namespace VL
open PySem PySem.Spec L2 TL
open PyProof.Rows hiding St

/-! ### texts -/
theorem strOk_iff {x : Str} : PyData.strOk x = true ↔ ∀ c ∈ x.cps.toList, c < 1114112 := by
  unfold PyData.strOk
  rw [← Array.all_toList, List.all_eq_true]
  simp
theorem strOk_tl {l : List Nat} (h : ∀ c ∈ l, c < 1114112) : PyData.strOk ⟨l.toArray⟩ = true := strOk_iff.mpr (by simpa using h)
theorem mem_joinL {S : List Nat} : ∀ {ps : List (List Nat)} {p : List Nat}, p ∈ ps → ∀ c ∈ p, c ∈ joinL S ps
  | [], _, h, _, _ => absurd h (by simp)
  | [q], p, h, c, hc => by rw [List.mem_singleton.mp h] at hc; exact hc
  | q :: q' :: r, p, h, c, hc => by
    show c ∈ q ++ (S ++ joinL S (q' :: r))
    rcases List.mem_cons.mp h with e | h
    · rw [e] at hc; exact List.mem_append_left _ hc
    · exact List.mem_append_right _ (List.mem_append_right _ (mem_joinL h c hc))
theorem of_mem_joinL {S : List Nat} : ∀ {ps : List (List Nat)} {c : Nat}, c ∈ joinL S ps → c ∈ S ∨ ∃ p ∈ ps, c ∈ p
  | [], _, h => absurd h (by simp [joinL])
  | [q], c, h => .inr ⟨q, by simp, h⟩
  | q :: q' :: r, c, h => by
    rcases List.mem_append.mp (show c ∈ q ++ (S ++ joinL S (q' :: r)) from h) with h | h
    · exact .inr ⟨q, by simp, h⟩
    · rcases List.mem_append.mp h with h | h
      · exact .inl h
      · rcases of_mem_joinL h with h | ⟨p, hp, h⟩
        · exact .inl h
        · exact .inr ⟨p, List.mem_cons_of_mem _ hp, h⟩
theorem strOk_join {y : Str} {ps : List Str} (hy : PyData.strOk y = true) (hp : ∀ p ∈ ps, PyData.strOk p = true) : PyData.strOk (Txt.join y ps) = true := by
  rw [join_eq, strOk_iff]
  intro c hc
  have hc : c ∈ tl (Str.join y ps) := hc
  rw [tl_join] at hc
  rcases of_mem_joinL hc with h | ⟨p, h1, h2⟩
  · exact strOk_iff.mp hy c h
  · obtain ⟨q, hq, e⟩ := List.mem_map.mp h1
    subst e
    exact strOk_iff.mp (hp q hq) c h2
theorem split_sub {x y p : Str} (h : p ∈ Txt.split x y) : ∀ c ∈ tl p, c ∈ tl x := fun c hc => by
  have e := PySem.StrLaws.join_split x y
  rw [← e, tl_join]
  exact mem_joinL (List.mem_map.mpr ⟨p, h, rfl⟩) c hc
theorem strOk_split {x y p : Str} (hx : PyData.strOk x = true) (h : p ∈ Txt.split x y) : PyData.strOk p = true := strOk_iff.mpr fun c hc => strOk_iff.mp hx c (split_sub h c hc)

/-! ### keys, tables, cuts -/
def D.key : D → Option Key
  | .int i => some (.inl i)
  | .str s => some (.inr s)
  | _ => none
def look {β : Type} (kvs : List (Key × β)) (k : Key) : Option β := (kvs.find? fun kv => decide (kv.1 = k)).map (·.2)
def putD {β : Type} (kvs : List (Key × β)) (k : Key) (v : β) : List (Key × β) :=
  if (kvs.any fun kv => decide (kv.1 = k)) = true then kvs.map (fun kv => if kv.1 = k then (kv.1, v) else kv) else kvs ++ [(k, v)]
def cutL {α : Type} (xs : List α) (lo hi : Option Int) : List α := (xs.drop (HT.sIx xs.length 0 lo)).take (HT.sIx xs.length xs.length hi - HT.sIx xs.length 0 lo)
theorem keyV {K : PySem.W.Frag} {Z H : Hp} {d : D} {v : V} (w : Vw K Z H d v) {k : Key} (e : d.key = some k) : v = kV k := by
  cases d with
  | int i => simp only [D.key, Option.some.injEq] at e; subst e; exact w.intE
  | str i => simp only [D.key, Option.some.injEq] at e; subst e; exact w.strE.1
  | _ => simp [D.key] at e
section
variable {K : PySem.W.Frag} {Z : Hp}
theorem rzs_look : ∀ {kvs : List (Key × D)} {kvs' : List (Key × V)}, kvs'.map (·.1) = kvs.map (·.1) → Rzs K Z (kvs.map (·.2)) (kvs'.map (·.2)) → ∀ (k : Key), (∀ d, look kvs k = some d → ∃ v, valV kvs' k = some v ∧ Rz K Z d v) ∧ (look kvs k = none → valV kvs' k = none)
  | [], [], _, _, k => ⟨fun d h => by simp [look] at h, fun _ => rfl⟩
  | [], _ :: _, e, _, _ => by simp at e
  | (k', d') :: fs, [], e, _, _ => by simp at e
  | (k', d') :: fs, (k2, v') :: fs', e, r, k => by
    simp only [List.map_cons, List.cons.injEq] at e
    obtain ⟨rfl, e⟩ := e
    simp only [List.map_cons] at r
    cases r with
    | cons h1 r =>
      by_cases hk : k2 = k
      · rw [valV_pos (p := (k2, v')) hk]
        refine ⟨fun d h => ?_, fun h => ?_⟩
        · simp [look, List.find?_cons, hk] at h
          subst h
          exact ⟨v', rfl, h1⟩
        · simp [look, List.find?_cons, hk] at h
      · rw [valV_neg (p := (k2, v')) hk]
        have ee : look ((k2, d') :: fs) k = look fs k := by simp [look, List.find?_cons, hk]
        rw [ee]
        exact rzs_look e r k
theorem rzs_putD {kvs : List (Key × D)} {kvs' : List (Key × V)} (e : kvs'.map (·.1) = kvs.map (·.1)) (r : Rzs K Z (kvs.map (·.2)) (kvs'.map (·.2))) (k : Key) {d : D} {v : V} (h : Rz K Z d v) :
    (putK kvs' k v).map (·.1) = (putD kvs k d).map (·.1) ∧ Rzs K Z ((putD kvs k d).map (·.2)) ((putK kvs' k v).map (·.2)) := by
  have any : ∀ {kvs : List (Key × D)} {kvs' : List (Key × V)}, kvs'.map (·.1) = kvs.map (·.1) → (kvs'.any fun kv => decide (kv.1 = k)) = (kvs.any fun kv => decide (kv.1 = k)) := fun {a b} e => by
    have h1 : (b.any fun kv => decide (kv.1 = k)) = ((b.map (·.1)).any fun z => decide (z = k)) := by rw [List.any_map]; rfl
    have h2 : (a.any fun kv => decide (kv.1 = k)) = ((a.map (·.1)).any fun z => decide (z = k)) := by rw [List.any_map]; rfl
    rw [h1, h2, e]
  unfold putK putD
  rw [any e]
  split
  · clear any
    have key : ∀ {kvs : List (Key × D)} {kvs' : List (Key × V)}, kvs'.map (·.1) = kvs.map (·.1) → Rzs K Z (kvs.map (·.2)) (kvs'.map (·.2)) →
        (kvs'.map fun kv => if kv.1 = k then (kv.1, v) else kv).map (·.1) = (kvs.map fun kv => if kv.1 = k then (kv.1, d) else kv).map (·.1) ∧
        Rzs K Z ((kvs.map fun kv => if kv.1 = k then (kv.1, d) else kv).map (·.2)) ((kvs'.map fun kv => if kv.1 = k then (kv.1, v) else kv).map (·.2)) := by
      intro a
      induction a with
      | nil => intro b e r; cases b with
        | nil => exact ⟨rfl, .nil⟩
        | cons _ _ => simp at e
      | cons p a ih =>
        intro b e r
        cases b with
        | nil => simp at e
        | cons q b =>
          simp only [List.map_cons, List.cons.injEq] at e
          simp only [List.map_cons] at r
          cases r with
          | cons h1 r =>
            obtain ⟨i1, i2⟩ := ih e.2 r
            simp only [List.map_cons]
            by_cases hk : q.1 = k
            · have hk' : p.1 = k := e.1 ▸ hk
              rw [if_pos hk, if_pos hk']
              exact ⟨by rw [i1, e.1], .cons h i2⟩
            · have hk' : ¬ p.1 = k := e.1 ▸ hk
              rw [if_neg hk, if_neg hk']
              exact ⟨by rw [i1, e.1], .cons h1 i2⟩
    exact key e r
  · simp only [List.map_append, List.map_cons, List.map_nil]
    exact ⟨by rw [e], r.append (.one h)⟩
theorem Rzs.cut {ds : List D} {vs : List V} (r : Rzs K Z ds vs) (lo hi : Option Int) : Rzs K Z (cutL ds lo hi) (cutV vs lo hi) := by
  unfold cutL cutV
  rw [← r.length]
  exact (r.drop _).take _
end

section
variable {X : Cx} {W : WX}
/-! ### in -/
def oInL : D → D → (T → Prop) → Prop := fun d e R => ∃ ds, e = .lst ds ∧ Eqb d ∧ Eqb e ∧ R (.frz (.bl (ds.any fun z => eqD z d)))
def oNinL : D → D → (T → Prop) → Prop := fun d e R => ∃ ds, e = .lst ds ∧ Eqb d ∧ Eqb e ∧ R (.frz (.bl (!ds.any fun z => eqD z d)))
theorem pys_any : ∀ {ds : List D} {ps : List PyData} {d : D} {p : PyData}, D.pys ds = some ps → d.py = some p → (ds.any fun z => eqD z d) = ps.any fun z => PyData.eqv z p
  | [], _, _, _, e, _ => by simp only [D.pys, Option.some.injEq] at e; subst e; rfl
  | x :: xs, ps, d, p, e, h => by
    simp only [D.pys] at e
    split at e
    · rename_i q qs e1 e2
      simp only [Option.some.injEq] at e
      subst e
      rw [List.any_cons, List.any_cons, pys_any e2 h]
      congr 1
      unfold eqD
      rw [e1, h]
    · cases e
theorem py_lst {ds : List D} {p : PyData} (e : (D.lst ds).py = some p) : ∃ ps, D.pys ds = some ps ∧ p = .list ps := by
  simp only [D.py] at e
  split at e
  · rename_i ps eps
    simp only [Option.some.injEq] at e
    exact ⟨ps, eps, e.symm⟩
  · cases e
theorem py_tup {ds : List D} {p : PyData} (e : (D.tup ds).py = some p) : ∃ ps, D.pys ds = some ps ∧ p = .tuple ps := by
  simp only [D.py] at e
  split at e
  · rename_i ps eps
    simp only [Option.some.injEq] at e
    exact ⟨ps, eps, e.symm⟩
  · cases e
theorem ov_inL (hu : X.A.units + 65 < cLine) : OpV X (compareOp .In) oInL := ⟨_, op_inD hu, fun Z H d v d' v' R Q hs w w' ⟨ds, e, ⟨p, e1, g1⟩, ⟨p', e2, g2⟩, q⟩ k => by
  subst e
  obtain ⟨ps, h1, h2⟩ := py_lst e2
  obtain ⟨a, b⟩ := w.dp hs e1
  obtain ⟨a', b'⟩ := w'.dp hs e2
  subst h2
  rw [pys_any h1 e1] at q
  exact ⟨p, ps, a, a', shaped_of b g1, shaped_of b' g2, k.frz hs (.bl _) q⟩⟩
theorem ov_ninL (hu : X.A.units + 65 < cLine) : OpV X (compareOp .NotIn) oNinL := ⟨_, op_notInD hu, fun Z H d v d' v' R Q hs w w' ⟨ds, e, ⟨p, e1, g1⟩, ⟨p', e2, g2⟩, q⟩ k => by
  subst e
  obtain ⟨ps, h1, h2⟩ := py_lst e2
  obtain ⟨a, b⟩ := w.dp hs e1
  obtain ⟨a', b'⟩ := w'.dp hs e2
  subst h2
  rw [pys_any h1 e1] at q
  exact ⟨p, ps, a, a', shaped_of b g1, shaped_of b' g2, k.frz hs (.bl _) q⟩⟩
/-- flat data -/
def D.flat : D → Bool
  | .non => true
  | .bl _ => true
  | .int _ => true
  | .str _ => true
  | _ => false
theorem flat_v {K : PySem.W.Frag} {Z : Hp} {d : D} {v : V} (r : Rz K Z d v) (h : d.flat = true) : flatV v = true := by
  cases r with
  | non => rfl
  | bl b => rfl
  | int i => rfl
  | str s ok => rfl
  | _ => cases h
theorem flat_eq {K : PySem.W.Frag} {Z : Hp} {d e : D} {v u : V} (r : Rz K Z d v) (r' : Rz K Z e u) (h : d.flat = true) (h' : e.flat = true) : eqV v u = eqD d e := by
  cases r with
  | non => cases r' with
    | non => rfl
    | bl b => rfl
    | int i => rfl
    | str s ok => rfl
    | _ => cases h'
  | bl b => cases r' with
    | non => rfl
    | bl b => rfl
    | int i => rfl
    | str s ok => rfl
    | _ => cases h'
  | int i => cases r' with
    | non => rfl
    | bl b => rfl
    | int i => rfl
    | str s ok => rfl
    | _ => cases h'
  | str s ok => cases r' with
    | non => rfl
    | bl b => rfl
    | int i => rfl
    | str s ok => rfl
    | _ => cases h'
  | _ => cases h
theorem flats {K : PySem.W.Frag} {Z : Hp} : ∀ {ds : List D} {vs : List V}, Rzs K Z ds vs → ds.all D.flat = true → vs.all flatV = true
  | [], _, .nil, _ => rfl
  | d :: ds, _, .cons h r, q => by
    rw [List.all_cons, Bool.and_eq_true] at q ⊢
    exact ⟨flat_v h q.1, flats r q.2⟩
theorem flats_any {K : PySem.W.Frag} {Z : Hp} {d : D} {v : V} (hd : Rz K Z d v) (hf : d.flat = true) : ∀ {ds : List D} {vs : List V}, Rzs K Z ds vs → ds.all D.flat = true → inV v vs = ds.any fun z => eqD z d
  | [], _, .nil, _ => rfl
  | x :: ds, _, .cons h r, q => by
    rw [List.all_cons, Bool.and_eq_true] at q
    show (eqV _ v || inV v _) = _
    rw [List.any_cons, flats_any hd hf r q.2, flat_eq h hd q.1 hf]
theorem Vw.flatZ {K : PySem.W.Frag} {Z H : Hp} {d : D} {v : V} (w : Vw K Z H d v) (h : d.flat = true) : Rz K Z d v := by
  cases w with
  | rz r => exact r
  | lst _ _ => cases h
  | dct _ _ _ => cases h
def oInT : D → D → (T → Prop) → Prop := fun d e R => ∃ ds, e = .tup ds ∧ d.flat = true ∧ ds.all D.flat = true ∧ R (.frz (.bl (ds.any fun z => eqD z d)))
def oNinT : D → D → (T → Prop) → Prop := fun d e R => ∃ ds, e = .tup ds ∧ d.flat = true ∧ ds.all D.flat = true ∧ R (.frz (.bl (!ds.any fun z => eqD z d)))
theorem ov_inT : OpV X (compareOp .In) oInT := ⟨_, op_in_seq, fun Z H d v d' v' R Q hs w w' ⟨ds, e, f1, f2, q⟩ k => by
  subst e
  obtain ⟨a, vs, rfl, h1, r1⟩ := w'.tupE hs
  have hz := w.flatZ f1
  rw [← flats_any hz f1 r1 f2] at q
  exact ⟨a, vs, rfl, .inr h1, flat_v hz f1, flats r1 f2, k.frz hs (.bl _) q⟩⟩
theorem ov_ninT : OpV X (compareOp .NotIn) oNinT := ⟨_, op_notIn_seq, fun Z H d v d' v' R Q hs w w' ⟨ds, e, f1, f2, q⟩ k => by
  subst e
  obtain ⟨a, vs, rfl, h1, r1⟩ := w'.tupE hs
  have hz := w.flatZ f1
  rw [← flats_any hz f1 r1 f2] at q
  exact ⟨a, vs, rfl, .inr h1, flat_v hz f1, flats r1 f2, k.frz hs (.bl _) q⟩⟩
/-- a sign in a text -/
def oInS : D → D → (T → Prop) → Prop := fun d e R => ∃ c z, d = .str ⟨#[c]⟩ ∧ e = .str z ∧ R (.frz (.bl (decide (c ∈ z.cps.toList))))
def oNinS : D → D → (T → Prop) → Prop := fun d e R => ∃ c z, d = .str ⟨#[c]⟩ ∧ e = .str z ∧ R (.frz (.bl (!decide (c ∈ z.cps.toList))))
theorem ov_inS : OpV X (compareOp .In) oInS := ⟨_, op_in_sign, fun Z H d v d' v' R Q hs w w' ⟨c, z, e1, e2, q⟩ k => by subst e1; subst e2; exact ⟨c, z, w.strE.1, w'.strE.1, k.frz hs (.bl _) q⟩⟩
theorem ov_ninS : OpV X (compareOp .NotIn) oNinS := ⟨_, op_notIn_sign, fun Z H d v d' v' R Q hs w w' ⟨c, z, e1, e2, q⟩ k => by subst e1; subst e2; exact ⟨c, z, w.strE.1, w'.strE.1, k.frz hs (.bl _) q⟩⟩
/-- a key in a dict -/
def oInD : D → D → (T → Prop) → Prop := fun d e R => ∃ key kvs, d.key = some key ∧ e = .dct kvs ∧ R (.frz (.bl (look kvs key).isSome))
def oNinD : D → D → (T → Prop) → Prop := fun d e R => ∃ key kvs, d.key = some key ∧ e = .dct kvs ∧ R (.frz (.bl (!(look kvs key).isSome)))
theorem opr_inD (hu : X.A.units + 1 < cLine) : OpR X (compareOp .In) (fun y x H Q => ∃ a o, x = .ref a ∧ DGet H a y o ∧ Q (.bl o.isSome) H) := fun pins s σ H y x u v Q I ry rx ⟨a, o, e, g, q⟩ => by
  subst e
  cases rx
  exact d_in hu I g ry fun s' I' => ⟨.bl o.isSome, H, I', rfl, q⟩
theorem opr_ninD (hu : X.A.units + 1 < cLine) : OpR X (compareOp .NotIn) (fun y x H Q => ∃ a o, x = .ref a ∧ DGet H a y o ∧ Q (.bl (!o.isSome)) H) := fun pins s σ H y x u v Q I ry rx ⟨a, o, e, g, q⟩ => by
  subst e
  cases rx
  exact d_notIn hu I g ry fun s' I' => ⟨.bl (!o.isSome), H, I', rfl, q⟩
theorem dget_look {K : PySem.W.Frag} {Z H : Hp} (hs : Same Z H) {kvs : List (Key × D)} {v : V} (w : Vw K Z H (.dct kvs) v) (k : Key) : ∃ a o, v = .ref a ∧ DGet H a (kV k) o ∧ o.isSome = (look kvs k).isSome ∧ (∀ d, look kvs k = some d → ∃ u, o = some u ∧ Rz K Z d u) ∧ (look kvs k = none → o = none) := by
  obtain ⟨a, kvs', rfl, h1, h2, h3⟩ := w.dctE hs
  obtain ⟨g1, g2⟩ := rzs_look h2 h3 k
  refine ⟨a, valV kvs' k, rfl, .inl ⟨kvs', k, h1, rfl, rfl⟩, ?_, g1, g2⟩
  cases e : look kvs k with
  | none => rw [g2 e]; rfl
  | some d => obtain ⟨u, hu, _⟩ := g1 d e; rw [hu]; rfl
theorem ov_inD (hu : X.A.units + 1 < cLine) : OpV X (compareOp .In) oInD := ⟨_, opr_inD hu, fun Z H d v d' v' R Q hs w w' ⟨key, kvs, e1, e2, q⟩ k => by
  subst e2
  obtain ⟨a, o, rfl, g, e, _⟩ := dget_look hs w' key
  rw [← keyV w e1] at g
  rw [← e] at q
  exact ⟨a, o, rfl, g, k.frz hs (.bl _) q⟩⟩
theorem ov_ninD (hu : X.A.units + 1 < cLine) : OpV X (compareOp .NotIn) oNinD := ⟨_, opr_ninD hu, fun Z H d v d' v' R Q hs w w' ⟨key, kvs, e1, e2, q⟩ k => by
  subst e2
  obtain ⟨a, o, rfl, g, e, _⟩ := dget_look hs w' key
  rw [← keyV w e1] at g
  rw [← e] at q
  exact ⟨a, o, rfl, g, k.frz hs (.bl _) q⟩⟩
def oIn : D → D → (T → Prop) → Prop := fun d e R => oInL d e R ∨ oInT d e R ∨ oInS d e R ∨ oInD d e R
def oNin : D → D → (T → Prop) → Prop := fun d e R => oNinL d e R ∨ oNinT d e R ∨ oNinS d e R ∨ oNinD d e R
theorem ov_in (hu : X.A.units + 65 < cLine) : OpV X (compareOp .In) oIn := (ov_inL hu).or (ov_inT.or (ov_inS.or (ov_inD (by omega))))
theorem ov_nin (hu : X.A.units + 65 < cLine) : OpV X (compareOp .NotIn) oNin := (ov_ninL hu).or (ov_ninT.or (ov_ninS.or (ov_ninD (by omega))))

/-! ### subscripts -/
def IxV (X : Cx) (op : D → D → (T → Prop) → Prop) : Prop :=
  ∃ r : R2, IxR X r ∧ ∀ Z H d v d' v' R Q, Same Z H → Vw X.K Z H d v → Vw X.K Z H d' v' → op d d' R → PK X.K Z H R Q → r v v' H Q
theorem IxV.or {a b : D → D → (T → Prop) → Prop} (h : IxV X a) (g : IxV X b) : IxV X (fun d e R => a d e R ∨ b d e R) := by
  obtain ⟨r, h1, h2⟩ := h
  obtain ⟨r', g1, g2⟩ := g
  exact ⟨_, h1.or g1, fun Z H d v d' v' R Q hs w w' q k => q.elim (fun q => .inl (h2 Z H d v d' v' R Q hs w w' q k)) fun q => .inr (g2 Z H d v d' v' R Q hs w w' q k)⟩
theorem ve_ix {o : D → D → (T → Prop) → Prop} {a b : Expr} {oa ob : Opr} {pos : Pos} (h : IxV X o) (ha : VO X W a oa) (hb : VO X W b ob) (hs : PlainIx b := by exact fun _ _ => rfl) : VE X W (.Subscript a b pos) (mO2 o oa ob) := by
  obtain ⟨r, h1, h2⟩ := h
  obtain ⟨t, t', pe, pe', sn⟩ := snd_o2 ha hb h2
  exact ⟨_, pe_ix h1 pe pe' hs, sn⟩
def oIxL : D → D → (T → Prop) → Prop := fun d e R => ∃ ds i x, d = .lst ds ∧ e = .int i ∧ atI ds i = some x ∧ R (.frz x)
def oIxT : D → D → (T → Prop) → Prop := fun d e R => ∃ ds i x, d = .tup ds ∧ e = .int i ∧ atI ds i = some x ∧ R (.frz x)
def oIxS : D → D → (T → Prop) → Prop := fun d e R => ∃ z i c, d = .str z ∧ e = .int i ∧ z.length ≤ sizeLine ∧ atI z.cps.toList i = some c ∧ R (.frz (.str ⟨#[c]⟩))
def oIxR : D → D → (T → Prop) → Prop := fun d e R => ∃ ns i x, d = .scr ns ∧ e = .int i ∧ atI ns i = some x ∧ R (.frz (.int x))
def oIxD : D → D → (T → Prop) → Prop := fun d e R => ∃ kvs k x, d = .dct kvs ∧ e.key = some k ∧ look kvs k = some x ∧ R (.frz x)
theorem rzs_atI {K : PySem.W.Frag} {Z : Hp} {ds : List D} {vs : List V} (r : Rzs K Z ds vs) {i : Int} {x : D} (h : atI ds i = some x) : ∃ v, atI vs i = some v ∧ Rz K Z x v := by
  unfold atI at h ⊢
  rw [← r.length]
  cases e : ixN ds.length i with
  | none => rw [e] at h; cases h
  | some j => rw [e] at h; exact r.get h
theorem map_atI {α β : Type} (f : α → β) (xs : List α) {i : Int} {x : α} (h : atI xs i = some x) : atI (xs.map f) i = some (f x) := by
  unfold atI at h ⊢
  rw [List.length_map]
  cases e : ixN xs.length i with
  | none => rw [e] at h; cases h
  | some j =>
    rw [e] at h
    show (xs.map f)[j]? = _
    rw [List.getElem?_map, show xs[j]? = some x from h]
    rfl
theorem mem_atI {α : Type} {xs : List α} {i : Int} {x : α} (h : atI xs i = some x) : x ∈ xs := by
  unfold atI at h
  cases e : ixN xs.length i with
  | none => rw [e] at h; cases h
  | some j => rw [e] at h; exact List.mem_of_getElem? (show xs[j]? = some x from h)
theorem ixv_L : IxV X oIxL := ⟨_, ix_list, fun Z H d v d' v' R Q hs w w' ⟨ds, i, x, e1, e2, h, q⟩ k => by
  subst e1; subst e2
  obtain ⟨a, vs, rfl, h1, r1⟩ := w.lstE hs
  obtain ⟨u, g, rz⟩ := rzs_atI r1 h
  exact ⟨a, vs, i, u, rfl, w'.intE, .inl (.inl h1), g, k.frz hs rz q⟩⟩
theorem ixv_T : IxV X oIxT := ⟨_, ix_tup, fun Z H d v d' v' R Q hs w w' ⟨ds, i, x, e1, e2, h, q⟩ k => by
  subst e1; subst e2
  obtain ⟨a, vs, rfl, h1, r1⟩ := w.tupE hs
  obtain ⟨u, g, rz⟩ := rzs_atI r1 h
  exact ⟨a, vs, i, u, rfl, w'.intE, h1, g, k.frz hs rz q⟩⟩
theorem ixv_R : IxV X oIxR := ⟨_, ix_list, fun Z H d v d' v' R Q hs w w' ⟨ds, i, x, e1, e2, h, q⟩ k => by
  subst e1; subst e2
  obtain ⟨a, rfl, h1⟩ := w.scrE hs
  exact ⟨a, _, i, .int x, rfl, w'.intE, h1, map_atI V.int ds h, k.frz hs (.int _) q⟩⟩
theorem ixv_S : IxV X oIxS := ⟨_, ix_str, fun Z H d v d' v' R Q hs w w' ⟨z, i, x, e1, e2, hz, h, q⟩ k => by
  subst e1; subst e2
  refine ⟨z, i, x, w.strE.1, w'.intE, hz, h, k.frz hs (.str _ ?_) q⟩
  exact strOk_iff.mpr fun c hc => by
    have e : c = x := by simpa using hc
    rw [e]
    exact strOk_iff.mp w.strE.2 x (mem_atI h)⟩
theorem ixr_D (hu : X.A.units + 1 < cLine) : IxR X (fun x y H Q => ∃ a v, x = .ref a ∧ DGet H a y (some v) ∧ Q v H) := fun value slice pins s σ H x y v u Q I rx ry ⟨a, z, e, g, q⟩ hs => by
  subst e
  cases rx
  exact tail_any (dict_typeIs I g) PySem.F.slot_dict_getitem.lookup (d_getItem hu I g ry fun w' s3 I3 rw' => ⟨z, H, I3, rw', q⟩) hs
theorem ixv_D (hu : X.A.units + 1 < cLine) : IxV X oIxD := ⟨_, ixr_D hu, fun Z H d v d' v' R Q hs w w' ⟨kvs, key, x, e1, e2, h, q⟩ k => by
  subst e1
  obtain ⟨a, o, rfl, g, _, g2, _⟩ := dget_look hs w key
  obtain ⟨u, rfl, rz⟩ := g2 x h
  rw [← keyV w' e2] at g
  exact ⟨a, u, rfl, g, k.frz hs rz q⟩⟩
def oIx : D → D → (T → Prop) → Prop := fun d e R => oIxL d e R ∨ oIxT d e R ∨ oIxS d e R ∨ oIxR d e R ∨ oIxD d e R
theorem ixv (hu : X.A.units + 1 < cLine) : IxV X oIx := ixv_L.or (ixv_T.or (ixv_S.or (ixv_R.or (ixv_D hu))))

/-! ### slices -/
abbrev MO := Sl → (Option Int → Sl → Prop) → XRl → Prop
def KOkO (K : PySem.W.Frag) (Z H : Hp) (F : List Addr) (σ : St) (R : Option Int → Sl → Prop) (Q : Option Int → Hp → Prop) : Prop :=
  ∀ Z' H' Γ' F' b, Same Z' H' → Ext Z H F Z' H' F' → Rsl K Z' H' Γ' σ F' → R b Γ' → Q b H'
def SndO (K : PySem.W.Frag) (W : WX) (t : TO) (m : MO) : Prop :=
  ∀ Z H σ Γ F R XR Q, Same Z H → Rsl K Z H Γ σ F → m Γ R XR → KOkO K Z H F σ R Q → XOk K Z H F σ XR W → t σ H Q
structure VPo (X : Cx) (W : WX) (e : Option Expr) (m : MO) : Prop where
  ex : ∃ t, PO X e t ∧ SndO X.K W t m
def mNo : MO := fun Γ R _ => R none Γ
def mSo (m : ME) : MO := fun Γ R XR => m Γ (fun t Γ' => ∃ i, t = .frz (.int i) ∧ R (some i) Γ') XR
theorem vp_none : VPo X W none mNo := ⟨_, po_none, fun Z H σ Γ F R XR Q hs rs m k x => k Z H Γ F none hs (.refl ..) rs m⟩
theorem vp_some {e : Expr} {m : ME} (h : VE X W e m) : VPo X W (some e) (mSo m) := by
  obtain ⟨t, pe, se⟩ := h.ex
  refine ⟨_, po_some pe, fun Z H σ Γ F R XR Q hs rs q k x => ?_⟩
  exact se Z H σ Γ F _ XR _ hs rs q (fun Z' H' Γ' F' r v G s1 e1 r1 p1 n1 ⟨i, eb, q1⟩ => by
    subst eb
    cases p1 with
    | frz rz => cases rz; exact ⟨i, rfl, k Z' H' Γ' F' _ s1 (e1.sub fun _ h => List.mem_append_left _ h) r1 q1⟩) x
def SlV (X : Cx) (op : D → Option Int → Option Int → (T → Prop) → Prop) : Prop :=
  ∃ r : V → Option Int → Option Int → Hp → VK → Prop, SlR X r ∧ ∀ Z H d v lo hi R Q, Same Z H → Vw X.K Z H d v → op d lo hi R → PK X.K Z H R Q → r v lo hi H Q
theorem SlV.or {a b : D → Option Int → Option Int → (T → Prop) → Prop} (h : SlV X a) (g : SlV X b) : SlV X (fun d l u R => a d l u R ∨ b d l u R) := by
  obtain ⟨r, h1, h2⟩ := h
  obtain ⟨r', g1, g2⟩ := g
  exact ⟨_, h1.or g1, fun Z H d v lo hi R Q hs w q k => q.elim (fun q => .inl (h2 Z H d v lo hi R Q hs w q k)) fun q => .inr (g2 Z H d v lo hi R Q hs w q k)⟩
def mSlc (op : D → Option Int → Option Int → (T → Prop) → Prop) : Opr → MO → MO → ME
  | .nm i, lo, hi => fun Γ R XR => slV Γ i (fun _ => True) ∧ lo Γ (fun a Γ1 => hi Γ1 (fun b Γ2 => slV Γ2 i fun d => op d a b fun t => R t Γ2) XR) XR
  | .ex m, lo, hi => fun Γ R XR => m Γ (fun t Γ1 => lo Γ1 (fun a Γ2 => hi Γ2 (fun b Γ3 => t.vw fun d => op d a b fun t => R t Γ3) XR) XR) XR
  | .fl _ _ _, _, _ => fun _ _ _ => False
theorem ve_slice {op : D → Option Int → Option Int → (T → Prop) → Prop} {e : Expr} {lo hi : Option Expr} {oe : Opr} {ml mh : MO} {p2 pos : Pos} (h : SlV X op) (he : VO X W e oe) (hl : VPo X W lo ml) (hh : VPo X W hi mh) : VE X W (.Subscript e (.Slice lo hi none p2) pos) (mSlc op oe ml mh) := by
  obtain ⟨r, h1, h2⟩ := h
  obtain ⟨tl, pl, sl⟩ := hl.ex
  obtain ⟨th, ph, sh⟩ := hh.ex
  cases he with
  | @nm i pe =>
    refine ⟨_, pe_slice h1 pe pl ph, fun Z H σ Γ F R XR Q hs rs m k x => ?_⟩
    obtain ⟨v, _, ev, _, _⟩ := slV_at rs m.1
    refine ⟨v, ev, sl Z H σ Γ F _ XR _ hs rs m.2 (fun Z1 H1 Γ1 F1 a s1 e1 r1 q1 => ?_) x⟩
    refine sh Z1 H1 σ Γ1 F1 _ XR _ s1 r1 q1 (fun Z2 H2 Γ2 F2 b s2 e2 r2 q2 => ?_) (x.step0 e1)
    obtain ⟨v2, d, ev2, vw, q⟩ := slV_at r2 q2
    rw [ev] at ev2
    cases ev2
    exact h2 Z2 H2 d v a b _ Q s2 vw q (k.ofPE (e1.trans e2) r2)
  | @ex m ve =>
    obtain ⟨t, pe, se⟩ := ve.ex
    refine ⟨_, pe_slice h1 pe pl ph, fun Z H σ Γ F R XR Q hs rs m k x => ?_⟩
    refine se Z H σ Γ F _ XR _ hs rs m (fun Z0 H0 Γ0 F0 t v G s0 e0 r0 p0 n0 q0 => ?_) x
    refine sl Z0 H0 σ Γ0 F0 _ XR _ s0 r0 q0 (fun Z1 H1 Γ1 F1 a s1 e1 r1 q1 => ?_) (x.step e0)
    refine sh Z1 H1 σ Γ1 F1 _ XR _ s1 r1 q1 (fun Z2 H2 Γ2 F2 b s2 e2 r2 q2 => ?_) ((x.step e0).step0 e1)
    obtain ⟨d, g1, g2⟩ := T.vw_ex q2
    obtain ⟨kp, _⟩ := (e1.trans e2).keeps p0 n0
    exact h2 Z2 H2 d v a b _ Q s2 (kp.view g1) g2 (k.ofPE ((e0.tr (e1.trans e2)).sub fun _ h => List.mem_append_left _ h) r2)
  | @fl i Cs f hc pe => exact ⟨_, pe_slice h1 pe pl ph, fun Z H σ Γ F R XR Q hs rs m k x => m.elim⟩
def oSlL : D → Option Int → Option Int → (T → Prop) → Prop := fun d lo hi R => ∃ ds, d = .lst ds ∧ R (.bl (cutL ds lo hi))
def oSlT : D → Option Int → Option Int → (T → Prop) → Prop := fun d lo hi R => ∃ ds, d = .tup ds ∧ R (.frz (.tup (cutL ds lo hi)))
def oSlS : D → Option Int → Option Int → (T → Prop) → Prop := fun d lo hi R => ∃ z, d = .str z ∧ z.length ≤ sizeLine ∧ R (.frz (.str (cutS z lo hi)))
def oSlR : D → Option Int → Option Int → (T → Prop) → Prop := fun d lo hi R => ∃ ns, d = .scr ns ∧ R (.bl ((cutL ns lo hi).map D.int))
theorem slv_L : SlV X oSlL := ⟨_, sl_list, fun Z H d v lo hi R Q hs w ⟨ds, e, q⟩ k => by
  subst e
  obtain ⟨a, vs, rfl, h1, r1⟩ := w.lstE hs
  exact ⟨a, vs, rfl, .inl (.inl h1), k.lst hs (r1.cut lo hi) q⟩⟩
theorem cutL_map {α β : Type} (f : α → β) (xs : List α) (lo hi : Option Int) : cutL (xs.map f) lo hi = (cutL xs lo hi).map f := by
  unfold cutL
  rw [List.length_map, List.map_take, List.map_drop]
theorem slv_R : SlV X oSlR := ⟨_, sl_list, fun Z H d v lo hi R Q hs w ⟨ds, e, q⟩ k => by
  subst e
  obtain ⟨a, rfl, h1⟩ := w.scrE hs
  refine ⟨a, _, rfl, h1, ?_⟩
  rw [show cutV (ds.map V.int) lo hi = (cutL ds lo hi).map V.int from cutL_map V.int ds lo hi]
  exact k.lst hs (Rzs.ofInts _) q⟩
theorem cut_whole {α : Type} {xs : List α} {lo hi : Option Int} (h : HT.sIx xs.length 0 lo = 0 ∧ HT.sIx xs.length xs.length hi = xs.length) : cutL xs lo hi = xs := by
  unfold cutL
  rw [h.1, h.2, List.drop_zero, Nat.sub_zero, List.take_length]
theorem slv_T : SlV X oSlT := ⟨_, sl_tupA, fun Z H d v lo hi R Q hs w ⟨ds, e, q⟩ k => by
  subst e
  obtain ⟨a, vs, rfl, h1, r1⟩ := w.tupZ
  refine ⟨a, vs, rfl, SqT.mono (rd_same hs) h1, fun e => ?_, fun _ => k.tup hs (r1.cut lo hi) q⟩
  rw [← r1.length] at e
  rw [cut_whole e] at q
  exact k.frz hs (.tup h1 r1) q⟩
theorem slv_S : SlV X oSlS := ⟨_, sl_str, fun Z H d v lo hi R Q hs w ⟨z, e, hz, q⟩ k => by
  subst e
  refine ⟨z, w.strE.1, hz, k.frz hs (.str _ ?_) q⟩
  refine strOk_tl fun c hc => ?_
  exact strOk_iff.mp w.strE.2 c (List.mem_of_mem_drop (List.mem_of_mem_take hc))⟩
def oSl : D → Option Int → Option Int → (T → Prop) → Prop := fun d lo hi R => oSlL d lo hi R ∨ oSlT d lo hi R ∨ oSlS d lo hi R ∨ oSlR d lo hi R
theorem slv : SlV X oSl := slv_L.or (slv_T.or (slv_S.or slv_R))

/-! ### attributes -/
def atF (Γ : Sl) (i : Nat) (Cs : List Addr) (f : Str) (k : D → Prop) : Prop := match Γ[i]? with
  | some (some (.bo C fs)) => C ∈ Cs ∧ match fs.lookup f with
    | some (.frz d) => k d
    | _ => False
  | some (some (.frz (.obj C fs))) => C ∈ Cs ∧ match fs.lookup f with
    | some d => k d
    | none => False
  | _ => False
def T.fld (t : T) (Cs : List Addr) (f : Str) (k : D → Prop) : Prop := match t with
  | .bo C fs => C ∈ Cs ∧ match fs.lookup f with
    | some (.frz d) => k d
    | _ => False
  | .frz (.obj C fs) => C ∈ Cs ∧ match fs.lookup f with
    | some d => k d
    | none => False
  | _ => False
def mAtr (Cs : List Addr) (f : Str) : Opr → ME
  | .nm i => fun Γ R _ => match Γ[i]? with
    | some (some t) => t.fld Cs f fun d => R (.frz d) Γ
    | _ => False
  | .ex m => fun Γ R XR => m Γ (fun t Γ' => t.fld Cs f fun d => R (.frz d) Γ') XR
  | .fl _ _ _ => fun _ _ _ => False
theorem fld_at {K : PySem.W.Frag} {Z H : Hp} (hs : Same Z H) {t : T} {v : V} {G : List Addr} (rp : Rp K Z H t v G) {Cs : List Addr} {f : Str} (hc : FldOk K Cs f) {k : D → Prop} (h : t.fld Cs f k) :
    ∃ (w : V) (d : D) (a C dx : Addr) (fs : List (Str × V)), v = .ref a ∧ H a = some (.ins C dx fs) ∧ Cls K C ∧ NoAttr K C f ∧ fs.lookup f = some w ∧ Rz K Z d w ∧ k d := by
  cases rp with
  | frz r =>
    cases r with
    | @obj C dx fs fs' a h1 h2 h3 =>
      have hC : C ∈ Cs := h.1
      have h' : match fs.lookup f with
        | some d => k d
        | none => False := h.2
      cases et : fs.lookup f with
      | none => rw [et] at h'; exact h'.elim
      | some d =>
        rw [et] at h'
        obtain ⟨w, ew, rw'⟩ := Rzs.lookup h2 h3 et
        exact ⟨w, d, _, _, _, _, rfl, hs _ _ h1, (hc _ hC).1, (hc _ hC).2, ew, rw', h'⟩
    | _ => exact h.elim
  | @bo C dx fs fs' a F h1 h2 h3 h4 h5 =>
    have hC : C ∈ Cs := h.1
    have h' : match fs.lookup f with
      | some (.frz d) => k d
      | _ => False := h.2
    cases et : fs.lookup f with
    | none => rw [et] at h'; exact h'.elim
    | some t =>
      rw [et] at h'
      obtain ⟨w, G', ew, rw', _⟩ := Rps.lookup h3 h4 et
      cases rw' with
      | frz rz => exact ⟨w, _, _, _, _, _, rfl, h1, (hc _ hC).1, (hc _ hC).2, ew, rz, h'⟩
      | _ => exact h'.elim
  | _ => exact h.elim
theorem ve_attr {Cs : List Addr} {f : Str} {e : Expr} {o : Opr} {pos : Pos} (hc : FldOk X.K Cs f) (h : VO X W e o) (hb : attributeBase e f X.env (eval e X.env) = eval e X.env := by rfl) : VE X W (.Attribute e f pos) (mAtr Cs f o) := by
  cases h with
  | @nm i pe =>
    refine ⟨_, pe_fld pe hb, fun Z H σ Γ F R XR Q hs rs m k x => ?_⟩
    have m' : match Γ[i]? with
      | some (some t) => t.fld Cs f fun d => R (.frz d) Γ
      | _ => False := m
    cases et : Γ[i]? with
    | none => rw [et] at m'; exact m'.elim
    | some o =>
      rw [et] at m'
      cases o with
      | none => exact m'.elim
      | some t =>
        obtain ⟨v, G, ev, rp, _⟩ := rs.at et
        obtain ⟨w, d, a, C, dx, fs, e1, e2, e3, e4, e5, rz, q⟩ := fld_at hs rp hc m'
        exact ⟨v, ev, a, C, dx, fs, w, e1, e2, e3, e4, e5, k.pure hs rs rz q⟩
  | @ex m ve =>
    obtain ⟨t, pe, se⟩ := ve.ex
    refine ⟨_, pe_fld pe hb, fun Z H σ Γ F R XR Q hs rs m k x => ?_⟩
    refine se Z H σ Γ F _ XR _ hs rs m (fun Z1 H1 Γ1 F1 t v G s1 e1 r1 p1 n1 q1 => ?_) x
    obtain ⟨w, d, a, C, dx, fs, g1, g2, g3, g4, g5, rz, q⟩ := fld_at s1 p1 hc q1
    exact ⟨a, C, dx, fs, w, g1, g2, g3, g4, g5, (k.step (e1.sub fun _ h => List.mem_append_left _ h)).pure s1 r1 rz q⟩
  | @fl i Cs f hc pe => exact ⟨_, pe_fld pe hb, fun Z H σ Γ F R XR Q hs rs m k x => m.elim⟩
end
end VL
set_option Elab.async false
set_option linter.all false
set_option autoImplicit false
set_option maxRecDepth 100000
set_option maxHeartbeats 2000000
/-! VL6: tests joined, values by tests; statements. -/
namespace VL
open PySem PySem.Spec L2
open PyProof.Rows hiding St

section
variable {X : Cx} {W : WX}
/-! ### tests -/
def D.tru (d : D) (k : Bool → Prop) : Prop := match d with
  | .non => k false
  | .bl b => k b
  | .int i => k (i != 0)
  | .str s => s.length ≤ sizeLine ∧ k ((s.length : Int) != 0)
  | .lst ds => k (!ds.isEmpty)
  | .tup ds => k (!ds.isEmpty)
  | _ => False
def mTru (o : Opr) : MT := fun Γ R XR => oV o Γ (fun d Γ' => d.tru fun b => R b Γ') XR
theorem isEmpty_rzs {K : PySem.W.Frag} {Z : Hp} {ds : List D} {vs : List V} (r : Rzs K Z ds vs) : vs.isEmpty = ds.isEmpty := by cases r <;> rfl
theorem tru_vw {K : PySem.W.Frag} {Z H : Hp} (hs : Same Z H) {d : D} {v : V} (w : Vw K Z H d v) {k : Bool → Prop} (h : d.tru k) : ∃ b, TruV K v H b ∧ k b := by
  cases d with
  | non => rw [w.nonE]; exact ⟨false, rfl, h⟩
  | bl b => rw [w.blE]; exact ⟨b, rfl, h⟩
  | int i => rw [w.intE]; exact ⟨_, rfl, h⟩
  | str s => rw [w.strE.1]; exact ⟨_, ⟨h.1, rfl⟩, h.2⟩
  | lst ds =>
    obtain ⟨a, vs, rfl, h1, r⟩ := w.lstE hs
    exact ⟨_, .inl ⟨vs, .inl (.inl h1), by rw [isEmpty_rzs r]⟩, h⟩
  | tup ds =>
    obtain ⟨a, vs, rfl, h1, r⟩ := w.tupE hs
    exact ⟨_, .inr (.inl ⟨vs, h1, by rw [isEmpty_rzs r]⟩), h⟩
  | _ => exact h.elim
/-- a value by its truth -/
theorem vt_tru {e : Expr} {o : Opr} (h : VO X W e o) (he : ∀ whole, isTrue e X.env whole = (do let v ← whole; standAt e.pos; holding [v] (truthy v)) := by intro _; rfl) : VT X W e (mTru o) := by
  obtain ⟨t, pe, sn⟩ := vo_view h
  refine ⟨_, pt_truth pe he, fun Z H σ Γ F R XR Q hs rs m k x => ?_⟩
  refine sn Z H σ Γ F _ XR _ hs rs m (fun Z' H' Γ' F' d v s1 e1 r1 w q => ?_) x
  obtain ⟨b, h1, h2⟩ := tru_vw s1 w q
  exact ⟨b, h1, k Z' H' Γ' F' b s1 e1 r1 h2⟩
def mNot (m : MT) : MT := fun Γ R XR => m Γ (fun b Γ' => R (!b) Γ') XR
def mAnd (m n : MT) : MT := fun Γ R XR => m Γ (fun b Γ' => if b = true then n Γ' R XR else R false Γ') XR
def mOr (m n : MT) : MT := fun Γ R XR => m Γ (fun b Γ' => if b = true then R true Γ' else n Γ' R XR) XR
theorem vt_not {e : Expr} {m : MT} {pos : Pos} (h : VT X W e m) : VT X W (.UnaryOp .Not e pos) (mNot m) := by
  obtain ⟨t, pe, sn⟩ := h.ex
  exact ⟨_, pt_not pe, fun Z H σ Γ F R XR Q hs rs m k x => sn Z H σ Γ F _ XR _ hs rs m (fun Z' H' Γ' F' b s1 e1 r1 q => k Z' H' Γ' F' _ s1 e1 r1 q) x⟩
theorem VW.vt {e : Expr} {m : MT} (h : VW X W e m) : VT X W e m := by
  obtain ⟨t, pe, sn⟩ := h.ex
  exact ⟨_, pe.pt, sn⟩
theorem vw_and1 {a : Expr} {m : MT} {pos : Pos} (h : VT X W a m) : VW X W (.BoolOp .And [a] pos) m := by
  obtain ⟨t, pe, sn⟩ := h.ex
  exact ⟨_, pw_and1 pe, sn⟩
theorem vw_or1 {a : Expr} {m : MT} {pos : Pos} (h : VT X W a m) : VW X W (.BoolOp .Or [a] pos) m := by
  obtain ⟨t, pe, sn⟩ := h.ex
  exact ⟨_, pw_or1 pe, sn⟩
theorem vw_and {a b : Expr} {rest : List Expr} {m n : MT} {pos : Pos} (h : VT X W a m) (g : VW X W (.BoolOp .And (b :: rest) pos) n) : VW X W (.BoolOp .And (a :: b :: rest) pos) (mAnd m n) := by
  obtain ⟨t, pe, sn⟩ := h.ex
  obtain ⟨t', pe', sn'⟩ := g.ex
  refine ⟨_, pw_and pe pe', fun Z H σ Γ F R XR Q hs rs m k x => sn Z H σ Γ F _ XR _ hs rs m (fun Z' H' Γ' F' b s1 e1 r1 q => ?_) x⟩
  cases b with
  | true => exact sn' Z' H' σ Γ' F' R XR Q s1 r1 q (fun Z2 H2 Γ2 F2 b s2 e2 r2 q2 => k Z2 H2 Γ2 F2 b s2 (e1.trans e2) r2 q2) (x.step0 e1)
  | false => exact k Z' H' Γ' F' _ s1 e1 r1 q
theorem vw_or {a b : Expr} {rest : List Expr} {m n : MT} {pos : Pos} (h : VT X W a m) (g : VW X W (.BoolOp .Or (b :: rest) pos) n) : VW X W (.BoolOp .Or (a :: b :: rest) pos) (mOr m n) := by
  obtain ⟨t, pe, sn⟩ := h.ex
  obtain ⟨t', pe', sn'⟩ := g.ex
  refine ⟨_, pw_or pe pe', fun Z H σ Γ F R XR Q hs rs m k x => sn Z H σ Γ F _ XR _ hs rs m (fun Z' H' Γ' F' b s1 e1 r1 q => ?_) x⟩
  cases b with
  | true => exact k Z' H' Γ' F' _ s1 e1 r1 q
  | false => exact sn' Z' H' σ Γ' F' R XR Q s1 r1 q (fun Z2 H2 Γ2 F2 b s2 e2 r2 q2 => k Z2 H2 Γ2 F2 b s2 (e1.trans e2) r2 q2) (x.step0 e1)
/-! ### and, or, not as values: all but the last a bool -/
def mAndV (m n : ME) : ME := fun Γ R XR => m Γ (fun t Γ' => ∃ b, t = .frz (.bl b) ∧ if b = true then n Γ' R XR else R (.frz (.bl false)) Γ') XR
def mOrV (m n : ME) : ME := fun Γ R XR => m Γ (fun t Γ' => ∃ b, t = .frz (.bl b) ∧ if b = true then R (.frz (.bl true)) Γ' else n Γ' R XR) XR
def mNotV (m : ME) : ME := fun Γ R XR => m Γ (fun t Γ' => ∃ b, t = .frz (.bl b) ∧ R (.frz (.bl (!b))) Γ') XR
theorem ve_one {a : Expr} {m : ME} {op : BoolOp} {pos : Pos} (h : VE X W a m) : VE X W (.BoolOp op [a] pos) m := by
  obtain ⟨t, pe, sn⟩ := h.ex
  exact ⟨_, pe_one pe, sn⟩
theorem ve_and {a b : Expr} {rest : List Expr} {m n : ME} {pos : Pos} (h : VE X W a m) (g : VE X W (.BoolOp .And (b :: rest) pos) n) : VE X W (.BoolOp .And (a :: b :: rest) pos) (mAndV m n) := by
  obtain ⟨t, pe, sn⟩ := h.ex
  obtain ⟨t', pe', sn'⟩ := g.ex
  refine ⟨_, pe_and pe pe', fun Z H σ Γ F R XR Q hs rs m k x => sn Z H σ Γ F _ XR _ hs rs m (fun Z' H' Γ' F' r v G s1 e1 r1 p1 n1 ⟨b, eb, q⟩ => ?_) x⟩
  subst eb
  have e1' := e1.sub fun _ h => List.mem_append_left _ h
  cases p1 with
  | frz rz =>
    cases rz
    refine ⟨b, rfl, ?_⟩
    cases b with
    | true => exact sn' Z' H' σ Γ' F' R XR Q s1 r1 q (k.step e1') (x.step0 e1')
    | false => exact (k.step e1').pure s1 r1 (.bl _) q
theorem ve_or {a b : Expr} {rest : List Expr} {m n : ME} {pos : Pos} (h : VE X W a m) (g : VE X W (.BoolOp .Or (b :: rest) pos) n) : VE X W (.BoolOp .Or (a :: b :: rest) pos) (mOrV m n) := by
  obtain ⟨t, pe, sn⟩ := h.ex
  obtain ⟨t', pe', sn'⟩ := g.ex
  refine ⟨_, pe_or pe pe', fun Z H σ Γ F R XR Q hs rs m k x => sn Z H σ Γ F _ XR _ hs rs m (fun Z' H' Γ' F' r v G s1 e1 r1 p1 n1 ⟨b, eb, q⟩ => ?_) x⟩
  subst eb
  have e1' := e1.sub fun _ h => List.mem_append_left _ h
  cases p1 with
  | frz rz =>
    cases rz
    refine ⟨b, rfl, ?_⟩
    cases b with
    | true => exact (k.step e1').pure s1 r1 (.bl _) q
    | false => exact sn' Z' H' σ Γ' F' R XR Q s1 r1 q (k.step e1') (x.step0 e1')
theorem ve_not {a : Expr} {m : ME} {pos : Pos} (h : VE X W a m) : VE X W (.UnaryOp .Not a pos) (mNotV m) := by
  obtain ⟨t, pe, sn⟩ := h.ex
  refine ⟨_, pe_not pe, fun Z H σ Γ F R XR Q hs rs m k x => sn Z H σ Γ F _ XR _ hs rs m (fun Z' H' Γ' F' r v G s1 e1 r1 p1 n1 ⟨b, eb, q⟩ => ?_) x⟩
  subst eb
  have e1' := e1.sub fun _ h => List.mem_append_left _ h
  cases p1 with
  | frz rz =>
    cases rz
    exact ⟨b, rfl, (k.step e1').pure s1 r1 (.bl _) q⟩
def mIfE (c : MT) (m n : ME) : ME := fun Γ R XR => c Γ (fun b Γ' => if b = true then m Γ' R XR else n Γ' R XR) XR
theorem ve_ife {c a b : Expr} {mc : MT} {m n : ME} {pos : Pos} (hc : VT X W c mc) (ha : VE X W a m) (hb : VE X W b n) : VE X W (.IfExp c a b pos) (mIfE mc m n) := by
  obtain ⟨t, pe, sn⟩ := hc.ex
  obtain ⟨ta, pa, sa⟩ := ha.ex
  obtain ⟨tb, pb, sb⟩ := hb.ex
  refine ⟨_, pe_ifExp pe pa pb, fun Z H σ Γ F R XR Q hs rs m k x => sn Z H σ Γ F _ XR _ hs rs m (fun Z' H' Γ' F' b s1 e1 r1 q => ?_) x⟩
  cases b with
  | true => exact sa Z' H' σ Γ' F' R XR Q s1 r1 q (k.step e1) (x.step0 e1)
  | false => exact sb Z' H' σ Γ' F' R XR Q s1 r1 q (k.step e1) (x.step0 e1)
end

/-! ### statements -/
structure VEnds where
  nx : Sl → Prop
  rt : T → Sl → Prop
  bk : Sl → Prop
  ct : Sl → Prop
  xr : XRl
abbrev MS := Sl → VEnds → Prop
structure EOk (K : PySem.W.Frag) (np : Nat) (Z H : Hp) (F : List Addr) (σ : St) (M : VEnds) (W : WX) (E : Ends) : Prop where
  nx : ∀ Z' H' σ' Γ' F', Same Z' H' → Ext Z H F Z' H' F' → Rsl K Z' H' Γ' σ' F' → σ'.take np = σ.take np → M.nx Γ' → E.nx σ' H'
  bk : ∀ Z' H' σ' Γ' F', Same Z' H' → Ext Z H F Z' H' F' → Rsl K Z' H' Γ' σ' F' → σ'.take np = σ.take np → M.bk Γ' → E.bk σ' H'
  ct : ∀ Z' H' σ' Γ' F', Same Z' H' → Ext Z H F Z' H' F' → Rsl K Z' H' Γ' σ' F' → σ'.take np = σ.take np → M.ct Γ' → E.ct σ' H'
  rt : ∀ Z' H' σ' Γ' F' r v G, Same Z' H' → Ext Z H F Z' H' (F' ++ G) → Rsl K Z' H' Γ' σ' F' → Rp K Z' H' r v G → (∀ x ∈ G, x ∉ F') → σ'.take np = σ.take np → M.rt r Γ' → E.rt v H'
  xr : ∀ Z' H' σ' Γ' F' C d fs, Same Z' H' → Ext Z H F Z' H' F' → Rsl K Z' H' Γ' σ' F' → σ'.take np = σ.take np → Xd K Z' d fs → M.xr C fs Γ' → W (.ref C) d σ' H'
def SndS (K : PySem.W.Frag) (np : Nat) (W : WX) (t : TS) (m : MS) : Prop :=
  ∀ Z H σ Γ F M E, Same Z H → Rsl K Z H Γ σ F → m Γ M → EOk K np Z H F σ M W E → t E σ H
structure VS (X : Cx) (W : WX) (np : Nat) (st : Stmt) (m : MS) : Prop where
  ex : ∃ t, PS X st t ∧ SndS X.K np W t m
structure VSs (X : Cx) (W : WX) (np : Nat) (st : List Stmt) (m : MS) : Prop where
  ex : ∃ t, PSs X st t ∧ SndS X.K np W t m
section
variable {K : PySem.W.Frag} {np : Nat} {Z H Z1 H1 : Hp} {F F1 : List Addr} {σ σ1 : St} {M : VEnds} {W : WX} {E : Ends}
theorem EOk.step (k : EOk K np Z H F σ M W E) (e : Ext Z H F Z1 H1 F1) (hp : σ1.take np = σ.take np) : EOk K np Z1 H1 F1 σ1 M W E where
  nx := fun Z' H' σ' Γ' F' a b c d => k.nx Z' H' σ' Γ' F' a (e.trans b) c (d.trans hp)
  bk := fun Z' H' σ' Γ' F' a b c d => k.bk Z' H' σ' Γ' F' a (e.trans b) c (d.trans hp)
  ct := fun Z' H' σ' Γ' F' a b c d => k.ct Z' H' σ' Γ' F' a (e.trans b) c (d.trans hp)
  rt := fun Z' H' σ' Γ' F' r v G a b c d n p => k.rt Z' H' σ' Γ' F' r v G a (e.trans b) c d n (p.trans hp)
  xr := fun Z' H' σ' Γ' F' C d fs a b c p => k.xr Z' H' σ' Γ' F' C d fs a (e.trans b) c (p.trans hp)
theorem EOk.xok (k : EOk K np Z H F σ M W E) : XOk K Z H F σ M.xr W := fun Z' H' Γ' F' C d fs a b c x q => k.xr Z' H' σ Γ' F' C d fs a b c rfl x q
end
section
variable {X : Cx} {W : WX} {np : Nat}
def sNil : MS := fun Γ M => M.nx Γ
def sSeq (a b : MS) : MS := fun Γ M => a Γ { M with nx := fun Γ' => b Γ' M }
theorem vss_nil : VSs X W np [] sNil := ⟨_, pss_nil, fun Z H σ Γ F M E hs rs m k => k.nx Z H σ Γ F hs (.refl ..) rs rfl m⟩
theorem EOk.withNx {K : PySem.W.Frag} {Z H : Hp} {F : List Addr} {σ : St} {M : VEnds} {E : Ends} (k : EOk K np Z H F σ M W E) {nx : Sl → Prop} {en : St → Hp → Prop}
    (h : ∀ Z' H' σ' Γ' F', Same Z' H' → Ext Z H F Z' H' F' → Rsl K Z' H' Γ' σ' F' → σ'.take np = σ.take np → nx Γ' → en σ' H') : EOk K np Z H F σ { M with nx := nx } W { E with nx := en } :=
  ⟨h, k.bk, k.ct, k.rt, k.xr⟩
theorem vss_cons {st : Stmt} {rest : List Stmt} {a b : MS} (h : VS X W np st a) (g : VSs X W np rest b) : VSs X W np (st :: rest) (sSeq a b) := by
  obtain ⟨t, ps, sn⟩ := h.ex
  obtain ⟨u, ps', sn'⟩ := g.ex
  exact ⟨_, pss_cons ps ps', fun Z H σ Γ F M E hs rs m k => sn Z H σ Γ F { M with nx := fun Γ' => b Γ' M } { E with nx := u E } hs rs m (k.withNx fun Z' H' σ' Γ' F' s1 e1 r1 p1 q => sn' Z' H' σ' Γ' F' M E s1 r1 q (k.step e1 p1))⟩
theorem vss_one {st : Stmt} {a : MS} (h : VS X W np st a) : VSs X W np [st] a := by
  obtain ⟨t, ps, sn⟩ := h.ex
  exact ⟨_, pss_one ps, sn⟩
theorem vs_pass {pos : Pos} : VS X W np (.Pass pos) sNil := ⟨_, ps_pass, fun Z H σ Γ F M E hs rs m k => k.nx Z H σ Γ F hs (.refl ..) rs rfl m⟩
def sBrk : MS := fun Γ M => M.bk Γ
def sCnt : MS := fun Γ M => M.ct Γ
theorem vs_break {pos : Pos} : VS X W np (.Break pos) sBrk := ⟨_, ps_break, fun Z H σ Γ F M E hs rs m k => k.bk Z H σ Γ F hs (.refl ..) rs rfl m⟩
theorem vs_cont {pos : Pos} : VS X W np (.Continue pos) sCnt := ⟨_, ps_continue, fun Z H σ Γ F M E hs rs m k => k.ct Z H σ Γ F hs (.refl ..) rs rfl m⟩
/-- an expression alone -/
def sExp (m : ME) : MS := fun Γ M => m Γ (fun _ Γ' => M.nx Γ') M.xr
theorem vs_expr {e : Expr} {m : ME} {pos : Pos} (h : VE X W e m) (hs : swapsWith e none pos.line X.env = pure false := by rfl) : VS X W np (.Expr e pos) (sExp m) := by
  obtain ⟨t, pe, sn⟩ := h.ex
  exact ⟨_, ps_expr pe hs, fun Z H σ Γ F M E hs rs m k => sn Z H σ Γ F _ M.xr _ hs rs m (fun Z' H' Γ' F' r v G s1 e1 r1 p1 n1 q => k.nx Z' H' σ Γ' F' s1 (e1.sub fun _ h => List.mem_append_left _ h) r1 rfl q) k.xok⟩
def sRet (m : ME) : MS := fun Γ M => m Γ (fun t Γ' => M.rt t Γ') M.xr
def sRetN : MS := fun Γ M => M.rt (.frz .non) Γ
theorem vs_ret {e : Expr} {m : ME} {pos : Pos} (h : VE X W e m) : VS X W np (.Return (some e) pos) (sRet m) := by
  obtain ⟨t, pe, sn⟩ := h.ex
  exact ⟨_, ps_ret pe, fun Z H σ Γ F M E hs rs m k => sn Z H σ Γ F _ M.xr _ hs rs m (fun Z' H' Γ' F' r v G s1 e1 r1 p1 n1 q => k.rt Z' H' σ Γ' F' r v G s1 e1 r1 p1 n1 rfl q) k.xok⟩
theorem vs_retN {pos : Pos} : VS X W np (.Return none pos) sRetN := ⟨_, ps_retN, fun Z H σ Γ F M E hs rs m k => k.rt Z H σ Γ F _ _ [] hs (by simpa using Ext.refl Z H F) rs (.frz .non) (fun x hx => absurd hx (by simp)) rfl m⟩
def sIf (c : MT) (a b : MS) : MS := fun Γ M => c Γ (fun k Γ' => if k = true then a Γ' M else b Γ' M) M.xr
theorem vs_if {c : Expr} {a b : List Stmt} {mc : MT} {ma mb : MS} {pos : Pos} (hc : VT X W c mc) (ha : VSs X W np a ma) (hb : VSs X W np b mb) : VS X W np (.If c a b pos) (sIf mc ma mb) := by
  obtain ⟨t, pe, sn⟩ := hc.ex
  obtain ⟨ta, pa, sa⟩ := ha.ex
  obtain ⟨tb, pb, sb⟩ := hb.ex
  refine ⟨_, ps_if pe pa pb, fun Z H σ Γ F M E hs rs m k => sn Z H σ Γ F _ M.xr _ hs rs m (fun Z' H' Γ' F' b s1 e1 r1 q => ?_) k.xok⟩
  cases b with
  | true => exact sa Z' H' σ Γ' F' M E s1 r1 q (k.step e1 rfl)
  | false => exact sb Z' H' σ Γ' F' M E s1 r1 q (k.step e1 rfl)
/-! ### names stored -/
theorem take_set {α : Type} {l : List α} {i n : Nat} {x : α} (h : n ≤ i) : (l.set i x).take n = l.take n := by
  apply List.ext_getElem?
  intro j
  by_cases hj : j < n
  · rw [List.getElem?_take_of_lt hj, List.getElem?_take_of_lt hj, List.getElem?_set_ne (by omega)]
  · rw [List.getElem?_eq_none (by rw [List.length_take]; omega), List.getElem?_eq_none (by rw [List.length_take]; omega)]
theorem put_slot {K : PySem.W.Frag} {Z H : Hp} {Γ : Sl} {σ : St} {F G : List Addr} {i : Nat} {t : T} {v : V} (rs : Rsl K Z H Γ σ F) (hi : i < Γ.length) (rp : Rp K Z H t v G) (n : ∀ x ∈ G, x ∉ F) :
    ∃ F', Rsl K Z H (Γ.set i (some t)) (σ.set i (some v)) F' ∧ ∀ x, x ∈ F' → x ∈ F ∨ x ∈ G := rs.put hi rp n
def sSet (i : Nat) (m : ME) : MS := fun Γ M => m Γ (fun t Γ' => i < Γ'.length ∧ M.nx (Γ'.set i (some t))) M.xr
theorem vs_set {i : Nat} {x : Str} {e : Expr} {m : ME} {pos pos' : Pos} (hN : X.N.Nodup) (h : VE X W e m) (hp : np ≤ i := by decide) (hi : X.N[i]? = some x := by rfl) (hx : Loc X.env.scope x := by first | exact Or.inl rfl | exact Or.inr rfl)
    (hs : swapsWith e (some (.Name x pos')) pos.line X.env = pure false := by rfl) (hf : X.fn x = true ∨ X.env.scope.names.lookup x = some .local := by first | exact .inl rfl | exact .inr rfl) : VS X W np (.Assign [.Name x pos'] e pos) (sSet i m) := by
  obtain ⟨t, pe, sn⟩ := h.ex
  refine ⟨_, ps_set hN hi hx pe hs hf, fun Z H σ Γ F M E hs rs m k => sn Z H σ Γ F _ M.xr _ hs rs m (fun Z' H' Γ' F' r v G s1 e1 r1 p1 n1 q => ?_) k.xok⟩
  obtain ⟨F2, rs2, sub⟩ := put_slot r1 q.1 p1 n1
  exact k.nx Z' H' _ _ F2 s1 (e1.sub fun a ha => List.mem_append.mpr (sub a ha)) rs2 (take_set hp) q.2
end
end VL
set_option Elab.async false
set_option linter.all false
set_option autoImplicit false
set_option maxRecDepth 100000
set_option maxHeartbeats 2000000
/-! VL7: promises, calls, defs. -/
namespace VL
open PySem PySem.Spec L2
open PyProof.Rows hiding St

/-- a promise over trees: the arguments, what is wanted of the answer and the parameters' last states, what of an exception -/
abbrev VSp := List T → (T → Sl → Prop) → XRl → Prop
def lift (K : PySem.W.Frag) (n : Nat) (sp : VSp) : Sp := fun vs H Q E => ∃ Z ts F R XR, vs.length = n ∧ Same Z H ∧ Rps K Z H ts vs F ∧ sp ts R XR ∧
  (∀ Z' H' v r Γ' F' G, Same Z' H' → Ext Z H F Z' H' (F' ++ G) → Rsl K Z' H' Γ' (vs.map some) F' → Rp K Z' H' r v G → (∀ x ∈ G, x ∉ F') → R r Γ' → Q v H') ∧
  (∀ Z' H' C d fs Γ' F', Same Z' H' → Ext Z H F Z' H' F' → Rsl K Z' H' Γ' (vs.map some) F' → Xd K Z' d fs → XR C fs Γ' → E (.ref C) d H')

/-! ### arguments: names whose containers the callee may change, and values -/
inductive AV where
  | io (i : Nat)
  | tm (t : T)
abbrev MG := Sl → (List AV → Sl → Prop) → XRl → Prop
inductive Avs (K : PySem.W.Frag) (Z H : Hp) (σ : St) : List AV → List V → List Addr → Prop
  | nil : Avs K Z H σ [] [] []
  | io {i v as vs G} : σ[i]? = some (some v) → Avs K Z H σ as vs G → Avs K Z H σ (.io i :: as) (v :: vs) G
  | tm {t v F as vs G} : Rp K Z H t v F → Avs K Z H σ as vs G → (∀ x ∈ F, x ∉ G) → Avs K Z H σ (.tm t :: as) (v :: vs) (F ++ G)
section
variable {K : PySem.W.Frag} {Z H Z' H' : Hp} {σ : St}
theorem Avs.foot {as : List AV} {vs : List V} {G : List Addr} (h : Avs K Z H σ as vs G) : ∀ x ∈ G, Z x = none ∧ ∃ o, H x = some o := by
  induction h with
  | nil => exact fun x hx => absurd hx (by simp)
  | io _ _ ih => exact ih
  | tm r _ _ ih => exact fun x hx => (List.mem_append.mp hx).elim (r.foot x) (ih x)
theorem Avs.mono (hz : Same Z Z') {as : List AV} {vs : List V} {G : List Addr} (h : Avs K Z H σ as vs G) : (∀ x ∈ G, Z' x = none ∧ H' x = H x) → Avs K Z' H' σ as vs G := by
  induction h with
  | nil => exact fun _ => .nil
  | io e _ ih => exact fun k => .io e (ih k)
  | tm r _ n ih => exact fun k => .tm (r.mono hz fun x hx => k x (List.mem_append_left _ hx)) (ih fun x hx => k x (List.mem_append_right _ hx)) n
/-- all values frozen -/
def AV.frz : AV → AV
  | .io i => .io i
  | .tm t => .tm (.frz t.toD)
theorem Avs.freeze {as : List AV} {vs : List V} {G : List Addr} (h : Avs K Z H σ as vs G) (hz : Same Z Z') : (∀ x ∈ G, Z' x = H x) → Avs K Z' H σ (as.map AV.frz) vs [] := by
  induction h with
  | nil => exact fun _ => .nil
  | io e _ ih => exact fun k => .io e (ih k)
  | @tm t v F as vs G r _ n ih => exact fun k => Avs.tm (F := []) (G := []) (.frz (r.freeze hz fun x hx => k x (List.mem_append_left _ hx))) (ih fun x hx => k x (List.mem_append_right _ hx)) (fun x hx => absurd hx (by simp))
def clr : List AV → Sl → Sl
  | [], Γ => Γ
  | .io i :: as, Γ => clr as (Γ.set i none)
  | .tm _ :: as, Γ => clr as Γ
def wb : List AV → Sl → Sl → Sl
  | .io i :: as, x :: Γp, Γ => wb as Γp (Γ.set i x)
  | .tm _ :: as, _ :: Γp, Γ => wb as Γp Γ
  | _, _, Γ => Γ
/-- what the callee gets -/
def argT : List AV → Sl → (List T → Prop) → Prop
  | [], _, k => k []
  | .io i :: as, Γ, k => match Γ[i]? with
    | some (some t) => argT as (Γ.set i none) fun ts => k (t :: ts)
    | _ => False
  | .tm t :: as, Γ, k => argT as Γ fun ts => k (.frz t.toD :: ts)
theorem Avs.ioE {i : Nat} {as : List AV} {vs : List V} (h : Avs K Z H σ (.io i :: as) vs []) : ∃ v vs', vs = v :: vs' ∧ σ[i]? = some (some v) ∧ Avs K Z H σ as vs' [] := by
  generalize eb : AV.io i :: as = bs at h
  generalize eG : ([] : List Addr) = G at h
  cases h with
  | nil => cases eb
  | io ev a =>
    simp only [List.cons.injEq, AV.io.injEq] at eb
    obtain ⟨e1, e2⟩ := eb
    subst e1; subst e2; subst eG
    exact ⟨_, _, rfl, ev, a⟩
  | tm _ _ _ => cases eb
theorem Avs.tmE {t : T} {as : List AV} {vs : List V} (h : Avs K Z H σ (.tm t :: as) vs []) : ∃ v vs', vs = v :: vs' ∧ Rp K Z H t v [] ∧ Avs K Z H σ as vs' [] := by
  generalize eb : AV.tm t :: as = bs at h
  generalize eG : ([] : List Addr) = G at h
  cases h with
  | nil => cases eb
  | io _ _ => cases eb
  | @tm t2 v F as2 vs2 G2 r b n =>
    simp only [List.cons.injEq, AV.tm.injEq] at eb
    obtain ⟨e1, e2⟩ := eb
    subst e1; subst e2
    obtain ⟨e3, e4⟩ := List.append_eq_nil_iff.mp eG.symm
    subst e3; subst e4
    exact ⟨v, vs2, rfl, r, b⟩
theorem Avs.nilE {vs : List V} {G : List Addr} (h : Avs K Z H σ [] vs G) : vs = [] := by cases h; rfl
theorem args_out : ∀ {as : List AV} {vs : List V} {Γ : Sl} {F : List Addr} {k : List T → Prop}, Rsl K Z H Γ σ F → Avs K Z H σ (as.map AV.frz) vs [] → argT as Γ k →
    ∃ ts F0 Fa, k ts ∧ Rsl K Z H (clr as Γ) σ F0 ∧ Rps K Z H ts vs Fa ∧ (∀ x, x ∈ F ↔ x ∈ F0 ∨ x ∈ Fa) ∧ ∀ x ∈ Fa, x ∉ F0
  | [], vs, Γ, F, k, rs, a, h => by
    have e := a.nilE
    subst e
    exact ⟨[], F, [], h, rs, .nil, fun x => by simp, fun x hx => absurd hx (by simp)⟩
  | .io i :: as, vs, Γ, F, k, rs, a, h => by
    obtain ⟨v, vs', rfl, ev, a⟩ := a.ioE
    cases e : Γ[i]? with
    | none => simp only [argT, e] at h
    | some o =>
      cases o with
      | none => simp only [argT, e] at h
      | some t =>
        simp only [argT, e] at h
        obtain ⟨v', G, F1, ev', rp, rs', mm, nn⟩ := rs.out e
        rw [ev] at ev'
        cases ev'
        obtain ⟨ts, F0, Fa, hk, r0, ra, m0, n0⟩ := args_out rs' a h
        refine ⟨t :: ts, F0, G ++ Fa, hk, r0, .cons rp ra fun x hx hx' => nn x hx ((m0 x).mpr (.inr hx')), fun x => ?_, fun x hx => ?_⟩
        · rw [mm, m0, List.mem_append]
          constructor
          · rintro (h | h | h)
            · exact .inr (.inl h)
            · exact .inl h
            · exact .inr (.inr h)
          · rintro (h | h | h)
            · exact .inr (.inl h)
            · exact .inl h
            · exact .inr (.inr h)
        · rcases List.mem_append.mp hx with h | h
          · exact fun q => nn x h ((m0 x).mpr (.inl q))
          · exact n0 x h
  | .tm t :: as, vs, Γ, F, k, rs, a, h => by
    obtain ⟨v, vs', rfl, r, b⟩ := a.tmE
    obtain ⟨ts, F0, Fa, hk, r0, ra, m0, n0⟩ := args_out (k := fun ts => k (.frz t.toD :: ts)) rs b h
    exact ⟨_, F0, [] ++ Fa, hk, r0, .cons r ra (fun x hx => absurd hx (by simp)), by simpa using m0, by simpa using n0⟩
theorem set_same {α : Type} {l : List (Option α)} {i : Nat} {v : α} (ev : l[i]? = some (some v)) : l.set i (some v) = l := by
  apply List.ext_getElem?
  intro j
  by_cases hj : i = j
  · subst hj
    have hl : i < l.length := (List.getElem?_eq_some_iff.mp ev).1
    rw [List.getElem?_set_self hl, ev]
  · rw [List.getElem?_set_ne hj]
theorem args_in : ∀ {as : List AV} {vs : List V} {Γ Γp : Sl} {F0 Fp : List Addr}, Rsl K Z H Γ σ F0 → Avs K Z' H' σ (as.map AV.frz) vs [] → Rsl K Z H Γp (vs.map some) Fp → (∀ x ∈ Fp, x ∉ F0) →
    ∃ F', Rsl K Z H (wb as Γp Γ) σ F' ∧ ∀ x ∈ F', x ∈ F0 ∨ x ∈ Fp
  | [], _, Γ, Γp, F0, Fp, rs, _, rp, n => ⟨F0, by cases Γp <;> exact rs, fun x hx => .inl hx⟩
  | .io i :: as, vs, Γ, Γp, F0, Fp, rs, a, rp, n => by
    obtain ⟨v, vs', rfl, ev, a⟩ := a.ioE
    have hi : i < Γ.length := by rw [rs.length]; exact (List.getElem?_eq_some_iff.mp ev).1
    rw [List.map_cons] at rp
    cases rp with
    | gap rp =>
      obtain ⟨F1, r1, m1⟩ := rs.forget i
      obtain ⟨F', r', m'⟩ := args_in r1 a rp (fun x hx hx' => n x hx (m1 x hx'))
      exact ⟨F', r', fun x hx => (m' x hx).elim (fun h => .inl (m1 x h)) .inr⟩
    | @has t _ Ft _ _ Fr h1 rp nn =>
      obtain ⟨F1, r1, m1⟩ := rs.put hi h1 (fun x hx => n x (List.mem_append_left _ hx))
      rw [set_same ev] at r1
      obtain ⟨F', r', m'⟩ := args_in r1 a rp (fun x hx hx' => (m1 x hx').elim (fun h => n x (List.mem_append_right _ hx) h) fun h => nn x h hx)
      refine ⟨F', r', fun x hx => ?_⟩
      rcases m' x hx with h | h
      · exact (m1 x h).elim .inl fun h => .inr (List.mem_append_left _ h)
      · exact .inr (List.mem_append_right _ h)
  | .tm t :: as, vs, Γ, Γp, F0, Fp, rs, a, rp, n => by
    obtain ⟨v, vs2, rfl, r, b⟩ := a.tmE
    rw [List.map_cons] at rp
    cases rp with
    | gap rp => exact args_in (as := as) rs b rp n
    | @has t _ Ft _ _ Fr h1 rp nn =>
      obtain ⟨F', r', m'⟩ := args_in (as := as) rs b rp (fun x hx => n x (List.mem_append_right _ hx))
      exact ⟨F', r', fun x hx => (m' x hx).elim .inl fun h => .inr (List.mem_append_right _ h)⟩
end
/-! ### argument lists as they are written -/
section
variable (K : PySem.W.Frag)
def KOkG (n : Nat) (Z H : Hp) (F : List Addr) (σ : St) (R : List AV → Sl → Prop) (Q : List V → Hp → Prop) : Prop :=
  ∀ Z' H' Γ' F' as vs G, Same Z' H' → Ext Z H F Z' H' (F' ++ G) → Rsl K Z' H' Γ' σ F' → Avs K Z' H' σ as vs G → (∀ x ∈ G, x ∉ F') → vs.length = n → R as Γ' → Q vs H'
def SndG (n : Nat) (W : WX) (t : TA) (m : MG) : Prop :=
  ∀ Z H σ Γ F R XR Q, Same Z H → Rsl K Z H Γ σ F → m Γ R XR → KOkG K n Z H F σ R Q → XOk K Z H F σ XR W → t σ H Q
end
structure VG (X : Cx) (W : WX) (es : List Expr) (m : MG) : Prop where
  ex : ∃ t, PA X es t ∧ SndG X.K es.length W t m
theorem Ext.keepsA {K : PySem.W.Frag} {Z H Z' H' : Hp} {σ : St} {F F' G : List Addr} {as : List AV} {vs : List V} (e : Ext Z H F Z' H' F') (r : Avs K Z H σ as vs G) (n : ∀ x ∈ G, x ∉ F) : Avs K Z' H' σ as vs G ∧ ∀ x ∈ G, x ∉ F' := by
  refine ⟨r.mono e.z fun x hx => ?_, fun x hx => ?_⟩
  · obtain ⟨hz, o, ho⟩ := r.foot x hx
    refine ⟨?_, ?_⟩
    · cases q : Z' x with
      | none => rfl
      | some u =>
        rcases e.zn x (by rw [q]; simp) with h | h | h
        · exact absurd hz h
        · exact absurd h (n x hx)
        · rw [ho] at h; cases h
    · rw [ho]; exact (e.fr x o ho (n x hx)).1
  · obtain ⟨_, o, ho⟩ := r.foot x hx
    exact (e.fr x o ho (n x hx)).2
section
variable {X : Cx} {W : WX}
def g0 : MG := fun Γ R _ => R [] Γ
def gE (m : ME) (r : MG) : MG := fun Γ R XR => m Γ (fun t Γ1 => r Γ1 (fun as Γ2 => R (.tm t :: as) Γ2) XR) XR
def gN (i : Nat) (r : MG) : MG := fun Γ R XR => (∃ t, Γ[i]? = some (some t)) ∧ r Γ (fun as Γ' => R (.io i :: as) Γ') XR
theorem vg_nil : VG X W [] g0 := ⟨_, pa_nil, fun Z H σ Γ F R XR Q hs rs m k x => k Z H Γ F [] [] [] hs (by simpa using Ext.refl Z H F) rs .nil (fun x hx => absurd hx (by simp)) rfl m⟩
theorem vg_e {e : Expr} {es : List Expr} {m : ME} {r : MG} (h : VE X W e m) (g : VG X W es r) (hs : starEach (e :: es) X.env = (false, eval e X.env) :: starEach es X.env := by rfl) : VG X W (e :: es) (gE m r) := by
  obtain ⟨te, pe, se⟩ := h.ex
  obtain ⟨ta, pa, sa⟩ := g.ex
  refine ⟨_, pa_cons pe pa hs, fun Z H σ Γ F R XR Q hs rs m k x => ?_⟩
  refine se Z H σ Γ F _ XR _ hs rs m (fun Z1 H1 Γ1 F1 t v G s1 e1 r1 p1 n1 q1 => ?_) x
  refine sa Z1 H1 σ Γ1 F1 _ XR _ s1 r1 q1 (fun Z2 H2 Γ2 F2 ts vs G2 s2 e2 r2 p2 n2 l2 q2 => ?_) (x.step e1)
  obtain ⟨kp, kn⟩ := e2.keeps p1 n1
  refine k Z2 H2 Γ2 F2 (.tm t :: ts) (v :: vs) (G ++ G2) s2 ((e1.tr e2).sub fun a ha => ?_) r2 (.tm kp p2 fun a ha hb => kn a ha (List.mem_append_right _ hb)) (fun a ha hb => ?_) (by simp [l2]) q2
  · simp only [List.mem_append] at ha ⊢
    rcases ha with h | h | h
    · exact .inl (.inl h)
    · exact .inr h
    · exact .inl (.inr h)
  · rcases List.mem_append.mp ha with h | h
    · exact kn a h (List.mem_append_left _ hb)
    · exact n2 a h hb
theorem vg_n (i : Nat) {x : Str} {p : Pos} {es : List Expr} {r : MG} (g : VG X W es r) (hN : X.N[i]? = some x := by rfl) (hv : Vis X.env.scope x := by first | exact Or.inl rfl | exact Or.inr (Or.inl rfl) | exact Or.inr (Or.inr rfl)) (hd : (x == ("__debug__" : Str)) = false := by decide)
    (hcd : (x == ("__classdict__" : Str)) = false := by decide) (hs : starEach (.Name x p :: es) X.env = (false, eval (.Name x p) X.env) :: starEach es X.env := by rfl) : VG X W (.Name x p :: es) (gN i r) := by
  obtain ⟨ta, pa, sa⟩ := g.ex
  refine ⟨_, pa_cons (pe_var hN hv hd hcd) pa hs, fun Z H σ Γ F R XR Q hs rs m k x => ?_⟩
  obtain ⟨⟨t, et⟩, m⟩ := m
  obtain ⟨v, G, ev, rp, _⟩ := rs.at et
  refine ⟨v, ev, sa Z H σ Γ F _ XR _ hs rs m (fun Z2 H2 Γ2 F2 ts vs G2 s2 e2 r2 p2 n2 l2 q2 => ?_) x⟩
  exact k Z2 H2 Γ2 F2 (.io i :: ts) (v :: vs) G2 s2 e2 r2 (.io ev p2) n2 (by simp [l2]) q2

/-! ### a promise kept -/
def call1 (sp : VSp) (as : List AV) (Γ : Sl) (R : T → Sl → Prop) (XR : XRl) : Prop :=
  argT as Γ fun ts => sp ts (fun r Γp => R r (wb as Γp (clr as Γ))) (fun C fs Γp => XR C fs (wb as Γp (clr as Γ)))
/-- the callee's world, from the caller's -/
theorem call_snd {sp : VSp} {n : Nat} {Z H Z1 H1 : Hp} {σ : St} {F F1 G : List Addr} {Γ : Sl} {R : T → Sl → Prop} {XR : XRl} {Q : VK} {as : List AV} {vs : List V}
    (k : KOk X.K Z H F σ R Q) (x : XOk X.K Z H F σ XR W) (s1 : Same Z1 H1) (e1 : Ext Z H F Z1 H1 (F1 ++ G)) (r1 : Rsl X.K Z1 H1 Γ σ F1) (a1 : Avs X.K Z1 H1 σ as vs G) (n1 : ∀ x ∈ G, x ∉ F1) (hn : vs.length = n) (q : call1 sp as Γ R XR) : lift X.K n sp vs H1 Q (WE W σ) := by
  have h0 : ∀ x ∈ G, Z1 x = none := fun x hx => (a1.foot x hx).1
  have r2 := frz_slots r1 h0 n1
  have a2 := a1.freeze (frzH_same (H := H1) h0) frzH_at
  have e2 := ext_frz e1 h0
  have s2 := frzH_below (F := G) s1
  obtain ⟨ts, F0, Fa, hk, r0, ra, m0, nd⟩ := args_out r2 a2 q
  have sub : ∀ x, x ∈ F0 ++ Fa → x ∈ F1 := fun x hx => (m0 x).mpr (List.mem_append.mp hx)
  -- the ground the callee starts from: F0 stays
  have outF : ∀ {Z' H' : Hp} {F' : List Addr}, Ext (frzH Z1 H1 G) H1 Fa Z' H' F' → Rsl X.K Z' H' (clr as Γ) σ F0 ∧ (∀ x ∈ F0, x ∉ F') ∧ Ext (frzH Z1 H1 G) H1 F1 Z' H' (F' ++ F0) := by
    intro Z' H' F' e
    have f0 : ∀ x ∈ F0, frzH Z1 H1 G x = none ∧ ∃ o, H1 x = some o := r0.foot
    have nf : ∀ x ∈ F0, x ∉ Fa := fun x hx hx' => nd x hx' hx
    refine ⟨r0.mono e.z fun x hx => ?_, fun x hx => ?_, ⟨e.z, fun a h => ?_, fun a o h n => ?_⟩⟩
    · obtain ⟨hz, o, ho⟩ := f0 x hx
      refine ⟨?_, by rw [ho]; exact (e.fr x o ho (nf x hx)).1⟩
      cases q : Z' x with
      | none => rfl
      | some u =>
        rcases e.zn x (by rw [q]; simp) with h | h | h
        · exact absurd hz h
        · exact absurd h (nf x hx)
        · rw [ho] at h; cases h
    · obtain ⟨_, o, ho⟩ := f0 x hx
      exact (e.fr x o ho (nf x hx)).2
    · rcases e.zn a h with h | h | h
      · exact .inl h
      · exact .inr (.inl ((m0 a).mpr (.inr h)))
      · exact .inr (.inr h)
    · have na : a ∉ Fa := fun z => n ((m0 a).mpr (.inr z))
      obtain ⟨h1, h2⟩ := e.fr a o h na
      exact ⟨h1, fun z => (List.mem_append.mp z).elim h2 fun z => n ((m0 a).mpr (.inl z))⟩
  refine ⟨_, ts, Fa, _, _, hn, s2, ra, hk, fun Z' H' v r Γp Fp Gr s' e' rp rr nr qq => ?_, fun Z' H' C dd fs Γp Fp s' e' rp hd qq => ?_⟩
  · obtain ⟨rr0, nn0, ee⟩ := outF e'
    obtain ⟨F', rF, mF⟩ := args_in rr0 a2 rp (fun x hx hx' => nn0 x hx' (List.mem_append_left _ hx))
    refine k Z' H' _ F' r v Gr s' ((e2.trans ee).sub fun x hx => ?_) rF rr (fun x hx hx' => ?_) qq
    · rcases List.mem_append.mp hx with h | h
      · rcases mF x h with h | h
        · exact List.mem_append_right _ h
        · exact List.mem_append_left _ (List.mem_append_left _ h)
      · exact List.mem_append_left _ (List.mem_append_right _ h)
    · rcases mF x hx' with h | h
      · exact nn0 x h (List.mem_append_right _ hx)
      · exact nr x hx h
  · obtain ⟨rr0, nn0, ee⟩ := outF e'
    obtain ⟨F', rF, mF⟩ := args_in rr0 a2 rp (fun x hx hx' => nn0 x hx' hx)
    refine x Z' H' _ F' C dd fs s' ((e2.trans ee).sub fun x hx => ?_) rF hd qq
    rcases mF x hx with h | h
    · exact List.mem_append_right _ h
    · exact List.mem_append_left _ h
end
end VL
set_option Elab.async false
set_option linter.all false
set_option autoImplicit false
set_option maxRecDepth 100000
set_option maxHeartbeats 2000000
/-! VL8: calls of defs, methods, classes; a def by its body. -/
namespace VL
open PySem PySem.Spec L2
open PyProof.Rows hiding St

/-- room below, and nothing is being shown -/
structure RoomG (k : Nat) (A : Around) : Prop where
  room : Room k A
  gd : A.guards = some []
theorem RoomG.mono {j k : Nat} {A : Around} (r : RoomG k A) (h : j ≤ k) : RoomG j A := ⟨r.room.mono h, r.gd⟩
theorem RoomG.deeper {k : Nat} {A : Around} (r : RoomG (k + 1) A) (env : Env) : RoomG k (A.deeper env) := ⟨r.room.deeper env, r.gd⟩
theorem RoomG.make {k : Nat} {A : Around} (r : RoomG (k + 1) A) (C : Addr) (us : List Value) (kw : List (Str × Value)) : RoomG k (A.under (.builtin "type.__call__" ⟨.ref C :: us, kw⟩)) := ⟨r.room.make C us kw, by
  unfold Around.under
  show pushGuards (Code.guards (.builtin "type.__call__" ⟨.ref C :: us, kw⟩)) A.guards = some []
  rw [show Code.guards (.builtin "type.__call__" ⟨.ref C :: us, kw⟩) = [] from by unfold Code.guards; rw [show Code.isGuard (.builtin "type.__call__" ⟨.ref C :: us, kw⟩) = false from by show List.contains _ _ = false; decide +kernel] <;> rfl, r.gd]
  rfl⟩
/-- a def's promise, where nothing is being shown -/
structure FnG (P : Program) (w : World) (K : PySem.W.Frag) (mg : Str → Option Value) (base : Heap) (k : Nat) (f : Addr) (fd : FuncData) (ps : List Str) (sp : Sp) : Prop where
  len : ∀ vs H Q E, sp vs H Q E → vs.length = ps.length
  run : ∀ (A : Around) (outer : List Env) (s : Shared) (H : Hp) (args : Args) (us : List Value) (vs : List V) (Q : VK) (E : XK), RoomG k A → Env0 P w K mg base A outer s H → BindsTo s fd args (ps.zip us) → Vals vs us → sp vs H Q E → codeAny (model P w) A (.call (.ref f) args) (CR (L2.CX P w) outer P w H s Q E) s
theorem FnG.mono {P : Program} {w : World} {K : PySem.W.Frag} {mg : Str → Option Value} {base : Heap} {j k : Nat} {f : Addr} {fd : FuncData} {ps : List Str} {sp : Sp} (F : FnG P w K mg base j f fd ps sp) (h : j ≤ k) : FnG P w K mg base k f fd ps sp := ⟨F.len, fun A outer s H args us vs Q E hr => F.run A outer s H args us vs Q E (hr.mono h)⟩
theorem run_fnG {X : Cx} {k : Nat} {f : Addr} {fd : FuncData} {ps : List Str} {sp : Sp} {E : St → XK} {pins : List (Addr × Obj)} {σ : St} {H : Hp} {st : Shared} {Q : VK} {us : List Value} {vs : List V} (F : FnG X.prog X.w X.K X.mg X.base k f fd ps sp) (hr : RoomG k X.A) (hb : Binds X.K fd ps []) (hx : PassesAt (L2.CX X.prog X.w) X σ (E σ))
    (I : Inv X pins σ H st) (r : Vals vs us) (q : sp vs H Q (E σ)) : wpAny (model X.prog X.w) X.A (call (.ref f) us) (EP X pins σ Q) X.xe st := by
  have lu : us.length = ps.length := by rw [← r.length]; exact F.len _ _ _ _ q
  have bt := hb st us I.kIn (by rw [List.append_nil]; exact lu)
  rw [List.append_nil] at bt
  refine wpAny_call (codeAny_mono (F.run X.A X.stack st H ⟨us, []⟩ us vs Q (E σ) hr I.env0 bt r q) fun res s2 hres => ?_)
  cases res with
  | error z => exact hx pins H st z s2 I hres
  | ok fl =>
    cases fl with
    | ret u => exact I.after hres
    | _ => exact hres.elim
section
variable {X : Cx} {W : WX} {lv : Nat} {fa C : Addr} {fd : FuncData} {ps : List Str} {sp : VSp} {nm mt : Str} {p pos apos : Pos} {e o : Expr} {es : List Expr}
abbrev VFn (X : Cx) (k : Nat) (f : Addr) (fd : FuncData) (ps : List Str) (sp : VSp) : Prop := FnG X.prog X.w X.K X.mg X.base k f fd ps (lift X.K ps.length sp)
def mCall (sp : VSp) (g : MG) : ME := fun Γ R XR => g Γ (fun as Γ' => call1 sp as Γ' R XR) XR
theorem pe_cS {s0 : Sp} {E : St → XK} {t : TA} (F : FnG X.prog X.w X.K X.mg X.base lv fa fd ps s0) (hr : RoomG lv X.A) (hg : Gl X nm) (hm : X.mg nm = some (.ref fa)) (hk : PySem.W.keepIn X.K (.ref fa) = true) (hb : Binds X.K fd ps []) (hx : ∀ σ, PassesAt (L2.CX X.prog X.w) X σ (E σ)) (ha : PA X (e :: es) t)
    (hdb : (nm == ("__debug__" : Str)) = false := by decide) (he : starEach (e :: es) X.env = (false, eval e X.env) :: starEach es X.env := by rfl) (hpl : (backTo pos (starEach es X.env)).any (·.1) = false := by rfl) : PE X (.Call (.Name nm p) (e :: es) [] pos) (fun σ H Q => t σ H fun vs H1 => s0 vs H1 Q (E σ)) := by
  constructor
  intro pn st σ H Q inv want
  apply wpAny_Call_Name_kw
  apply ld_glob inv hg hm _ hdb
  apply PySem.W.callWith_K (h₀ := X.base) inv.ok.mod.kin hk _ he hpl
  apply thn (ha.run pos pn st σ H _ inv want)
  rintro us s1 ⟨vs, H1, i1, r, q⟩
  exact ⟨i1.kIn, run_fnG F hr hb (hx σ) i1 r q⟩
theorem ve_call {g : MG} (F : VFn X lv fa fd ps sp) (hr : RoomG lv X.A) (hg : Gl X nm) (hm : X.mg nm = some (.ref fa)) (hk : PySem.W.keepIn X.K (.ref fa) = true) (hb : Binds X.K fd ps []) (tk : Takes X W)
    (ha : VG X W (e :: es) g) (hn : (e :: es).length = ps.length := by rfl) (hdb : (nm == ("__debug__" : Str)) = false := by decide) (he : starEach (e :: es) X.env = (false, eval e X.env) :: starEach es X.env := by rfl) (hpl : (backTo pos (starEach es X.env)).any (·.1) = false := by rfl) :
    VE X W (.Call (.Name nm p) (e :: es) [] pos) (mCall sp g) := by
  obtain ⟨t, pa, sn⟩ := ha.ex
  refine ⟨_, pe_cS F hr hg hm hk hb (fun σ => passAt tk σ) pa hdb he hpl, fun Z H σ Γ F0 R XR Q hs rs m k x => ?_⟩
  exact sn Z H σ Γ F0 _ XR _ hs rs m (fun Z' H' Γ' F' as vs G s1 e1 r1 a1 n1 l1 q => call_snd k x s1 e1 r1 a1 n1 (l1.trans hn) q) x
/-- a call without arguments -/
theorem pe_cS0 {s0 : Sp} {E : St → XK} (F : FnG X.prog X.w X.K X.mg X.base lv fa fd ps s0) (hr : RoomG lv X.A) (hg : Gl X nm) (hm : X.mg nm = some (.ref fa)) (hk : PySem.W.keepIn X.K (.ref fa) = true) (hb : Binds X.K fd ps []) (hx : ∀ σ, PassesAt (L2.CX X.prog X.w) X σ (E σ))
    (hdb : (nm == ("__debug__" : Str)) = false := by decide) : PE X (.Call (.Name nm p) [] [] pos) (fun σ H Q => s0 [] H Q (E σ)) := by
  constructor
  intro pn st σ H Q inv want
  apply wpAny_Call_Name_kw
  apply ld_glob inv hg hm _ hdb
  exact PySem.W.callWith_K0 inv.kIn hk (run_fnG F hr hb (hx σ) inv Paired.nil want)
theorem ve_call0 (F : VFn X lv fa fd ps sp) (hr : RoomG lv X.A) (hg : Gl X nm) (hm : X.mg nm = some (.ref fa)) (hk : PySem.W.keepIn X.K (.ref fa) = true) (hb : Binds X.K fd ps []) (tk : Takes X W)
    (hn : 0 = ps.length := by rfl) (hdb : (nm == ("__debug__" : Str)) = false := by decide) : VE X W (.Call (.Name nm p) [] [] pos) (mCall sp g0) :=
  ⟨_, pe_cS0 F hr hg hm hk hb (fun σ => passAt tk σ) hdb, fun Z H σ Γ F0 R XR Q hs rs m k x =>
    call_snd (as := []) (vs := []) (G := []) k x hs (by simpa using Ext.refl Z H F0) rs .nil (fun x hx => absurd hx (by simp)) hn m⟩

/-! ### methods -/
theorem pe_mS {s0 : Sp} {E : St → XK} {pl : Sem Bool} {ta : TE} {t : TA} (he : PE X o ta) (c : Cls X.K C) (hm : Meth X.K C mt fa) (F : FnG X.prog X.w X.K X.mg X.base lv fa fd ps s0) (hr : RoomG lv X.A) (hb : Binds X.K fd ps []) (hx : ∀ σ, PassesAt (L2.CX X.prog X.w) X σ (E σ)) (ha : PA X (e :: es) t)
    (hst : starEach (e :: es) X.env = (false, eval e X.env) :: starEach es X.env := by rfl) (hpl : (backTo pos (starEach es X.env)).any (·.1) = false := by rfl)
    (ht : eval (.Call (.Attribute o mt apos) (e :: es) [] pos) X.env = (do
      let recv ← eval o X.env
      standAt apos.atName
      let (fn, fst) ← holding [recv] (getMethod recv mt pl)
      callWith pos fn fst (backTo pos (starEach (e :: es) X.env)) (backToKw pos (keywordEach [] X.env))) := by rfl) :
    PE X (.Call (.Attribute o mt apos) (e :: es) [] pos) (fun σ H Q => ta σ H fun x H1 => ∃ a dx fs, x = .ref a ∧ H1 a = some (.ins C dx fs) ∧ fs.lookup mt = none ∧ t σ H1 fun vs H2 => s0 (x :: vs) H2 Q (E σ)) := by
  constructor
  intro pn st σ H Q inv want
  apply PySem.W.methodCall_KW (pl := pl) _ ht
  apply thn (he.run pn st σ H _ inv want)
  rintro u s1 ⟨x, H1, i1, rx, a, dx, fs, ex, ea, l, q⟩
  subst ex
  obtain rfl : u = Value.ref a := rx
  apply getmeth_ok i1 ea c hm l
  apply PySem.W.callWith_K (first := [Value.ref a]) (h₀ := X.base) i1.ok.mod.kin hm.kp _ hst hpl
  apply thn (ha.run pos pn s1 σ H1 _ i1 q)
  rintro us s2 ⟨vs, H2, i2, r, q2⟩
  exact ⟨i2.kIn, run_fnG F hr hb (hx σ) i2 (Paired.cons (show RelV (V.ref a) (Value.ref a) from rfl) r) q2⟩
theorem pe_mS0 {s0 : Sp} {E : St → XK} {pl : Sem Bool} {ta : TE} (he : PE X o ta) (c : Cls X.K C) (hm : Meth X.K C mt fa) (F : FnG X.prog X.w X.K X.mg X.base lv fa fd ps s0) (hr : RoomG lv X.A) (hb : Binds X.K fd ps []) (hx : ∀ σ, PassesAt (L2.CX X.prog X.w) X σ (E σ))
    (ht : eval (.Call (.Attribute o mt apos) [] [] pos) X.env = (do
      let recv ← eval o X.env
      standAt apos.atName
      let (fn, fst) ← holding [recv] (getMethod recv mt pl)
      callWith pos fn fst (backTo pos (starEach [] X.env)) (backToKw pos (keywordEach [] X.env))) := by rfl) :
    PE X (.Call (.Attribute o mt apos) [] [] pos) (fun σ H Q => ta σ H fun x H1 => ∃ a dx fs, x = .ref a ∧ H1 a = some (.ins C dx fs) ∧ fs.lookup mt = none ∧ s0 [x] H1 Q (E σ)) := by
  constructor
  intro pn st σ H Q inv want
  apply PySem.W.methodCall_KW (pl := pl) _ ht
  apply thn (he.run pn st σ H _ inv want)
  rintro u s1 ⟨x, H1, i1, rx, a, dx, fs, ex, ea, l, q⟩
  subst ex
  obtain rfl : u = Value.ref a := rx
  apply getmeth_ok i1 ea c hm l
  exact PySem.W.callWith_K0 (first := [Value.ref a]) i1.kIn hm.kp (run_fnG F hr hb (hx σ) i1 (Paired.cons (show RelV (V.ref a) (Value.ref a) from rfl) Paired.nil) q)
/-- an instance of the class C without an attribute of that name -/
def T.isI (t : T) (C : Addr) (m : Str) : Prop := match t with
  | .bo D fs => D = C ∧ fs.lookup m = none
  | .frz (.obj D fs) => D = C ∧ fs.lookup m = none
  | _ => False
theorem lookup_none {κ β γ : Type} [BEq κ] : ∀ {a : List (κ × β)} {b : List (κ × γ)}, a.map (·.1) = b.map (·.1) → ∀ {f : κ}, b.lookup f = none → a.lookup f = none
  | [], _, _, _, _ => rfl
  | _ :: _, [], e, _, _ => by simp at e
  | (k, x) :: a, (k', y) :: b, e, f, h => by
    simp only [List.map_cons, List.cons.injEq] at e
    obtain ⟨rfl, e⟩ := e
    rw [List.lookup_cons] at h ⊢
    cases hk : f == k with
    | true => rw [hk] at h; cases h
    | false => rw [hk] at h; exact lookup_none e h
theorem isI_at {K : PySem.W.Frag} {Z H : Hp} (hs : Same Z H) {t : T} {v : V} {G : List Addr} (rp : Rp K Z H t v G) {C : Addr} {m : Str} (h : t.isI C m) : ∃ (a dx : Addr) (fs : List (Str × V)), v = .ref a ∧ H a = some (.ins C dx fs) ∧ fs.lookup m = none := by
  cases rp with
  | frz r =>
    cases r with
    | obj h1 h2 h3 =>
      obtain ⟨e, h⟩ := h
      subst e
      exact ⟨_, _, _, rfl, hs _ _ h1, lookup_none h2 h⟩
    | _ => exact h.elim
  | bo h1 h2 h3 h4 h5 =>
    obtain ⟨e, h⟩ := h
    subst e
    exact ⟨_, _, _, rfl, h1, lookup_none h3 h⟩
  | _ => exact h.elim
/-- the receiver a name whose object the method may change -/
def mMethN (C : Addr) (m : Str) (i : Nat) (sp : VSp) (g : MG) : ME := fun Γ R XR => (∃ t, Γ[i]? = some (some t) ∧ t.isI C m) ∧ g Γ (fun as Γ' => call1 sp (.io i :: as) Γ' R XR) XR
/-- the receiver a value -/
def mMethE (C : Addr) (m : Str) (mo : ME) (sp : VSp) (g : MG) : ME := fun Γ R XR => mo Γ (fun t Γ1 => t.isI C m ∧ g Γ1 (fun as Γ2 => call1 sp (.tm t :: as) Γ2 R XR) XR) XR
theorem ve_methN (i : Nat) {x : Str} {px : Pos} {g : MG} (c : Cls X.K C) (hm : Meth X.K C mt fa) (F : VFn X lv fa fd ps sp) (hr : RoomG lv X.A) (hb : Binds X.K fd ps []) (tk : Takes X W) (ha : VG X W (e :: es) g) (hn : (e :: es).length + 1 = ps.length := by rfl)
    (hN : X.N[i]? = some x := by rfl) (hv : Vis X.env.scope x := by first | exact Or.inl rfl | exact Or.inr (Or.inl rfl) | exact Or.inr (Or.inr rfl)) (hd : (x == ("__debug__" : Str)) = false := by decide) (hcd : (x == ("__classdict__" : Str)) = false := by decide)
    {pl : Sem Bool} (hst : starEach (e :: es) X.env = (false, eval e X.env) :: starEach es X.env := by rfl) (hpl : (backTo pos (starEach es X.env)).any (·.1) = false := by rfl)
    (ht : eval (.Call (.Attribute (.Name x px) mt apos) (e :: es) [] pos) X.env = (do
      let recv ← eval (.Name x px) X.env
      standAt apos.atName
      let (fn, fst) ← holding [recv] (getMethod recv mt pl)
      callWith pos fn fst (backTo pos (starEach (e :: es) X.env)) (backToKw pos (keywordEach [] X.env))) := by rfl) :
    VE X W (.Call (.Attribute (.Name x px) mt apos) (e :: es) [] pos) (mMethN C mt i sp g) := by
  obtain ⟨t, pa, sn⟩ := ha.ex
  refine ⟨_, pe_mS (pe_var hN hv hd hcd) c hm F hr hb (fun σ => passAt tk σ) pa hst hpl ht, fun Z H σ Γ F0 R XR Q hs rs m k x => ?_⟩
  obtain ⟨⟨t, et, ti⟩, m⟩ := m
  obtain ⟨v, G, ev, rp, _⟩ := rs.at et
  obtain ⟨a, dx, fs, e1, e2, e3⟩ := isI_at hs rp ti
  refine ⟨v, ev, a, dx, fs, e1, e2, e3, ?_⟩
  exact sn Z H σ Γ F0 _ XR _ hs rs m (fun Z' H' Γ' F' as vs G s1 e1 r1 a1 n1 l1 q => call_snd k x s1 e1 r1 (.io ev a1) n1 (by rw [List.length_cons, l1]; exact hn) q) x
theorem ve_methN0 (i : Nat) {x : Str} {px : Pos} (c : Cls X.K C) (hm : Meth X.K C mt fa) (F : VFn X lv fa fd ps sp) (hr : RoomG lv X.A) (hb : Binds X.K fd ps []) (tk : Takes X W) (hn : 1 = ps.length := by rfl)
    (hN : X.N[i]? = some x := by rfl) (hv : Vis X.env.scope x := by first | exact Or.inl rfl | exact Or.inr (Or.inl rfl) | exact Or.inr (Or.inr rfl)) (hd : (x == ("__debug__" : Str)) = false := by decide) (hcd : (x == ("__classdict__" : Str)) = false := by decide)
    {pl : Sem Bool}
    (ht : eval (.Call (.Attribute (.Name x px) mt apos) [] [] pos) X.env = (do
      let recv ← eval (.Name x px) X.env
      standAt apos.atName
      let (fn, fst) ← holding [recv] (getMethod recv mt pl)
      callWith pos fn fst (backTo pos (starEach [] X.env)) (backToKw pos (keywordEach [] X.env))) := by rfl) :
    VE X W (.Call (.Attribute (.Name x px) mt apos) [] [] pos) (mMethN C mt i sp g0) := by
  refine ⟨_, pe_mS0 (pe_var hN hv hd hcd) c hm F hr hb (fun σ => passAt tk σ) ht, fun Z H σ Γ F0 R XR Q hs rs m k x => ?_⟩
  obtain ⟨⟨t, et, ti⟩, m⟩ := m
  obtain ⟨v, G, ev, rp, _⟩ := rs.at et
  obtain ⟨a, dx, fs, e1, e2, e3⟩ := isI_at hs rp ti
  refine ⟨v, ev, a, dx, fs, e1, e2, e3, ?_⟩
  exact call_snd (as := [.io i]) (vs := [v]) (G := []) k x hs (by simpa using Ext.refl Z H F0) rs (.io ev .nil) (fun x hx => absurd hx (by simp)) hn m
theorem ve_methE {mo : ME} {g : MG} (ho : VE X W o mo) (c : Cls X.K C) (hm : Meth X.K C mt fa) (F : VFn X lv fa fd ps sp) (hr : RoomG lv X.A) (hb : Binds X.K fd ps []) (tk : Takes X W) (ha : VG X W (e :: es) g) (hn : (e :: es).length + 1 = ps.length := by rfl)
    {pl : Sem Bool} (hst : starEach (e :: es) X.env = (false, eval e X.env) :: starEach es X.env := by rfl) (hpl : (backTo pos (starEach es X.env)).any (·.1) = false := by rfl)
    (ht : eval (.Call (.Attribute o mt apos) (e :: es) [] pos) X.env = (do
      let recv ← eval o X.env
      standAt apos.atName
      let (fn, fst) ← holding [recv] (getMethod recv mt pl)
      callWith pos fn fst (backTo pos (starEach (e :: es) X.env)) (backToKw pos (keywordEach [] X.env))) := by rfl) :
    VE X W (.Call (.Attribute o mt apos) (e :: es) [] pos) (mMethE C mt mo sp g) := by
  obtain ⟨to, po, so⟩ := ho.ex
  obtain ⟨t, pa, sn⟩ := ha.ex
  refine ⟨_, pe_mS po c hm F hr hb (fun σ => passAt tk σ) pa hst hpl ht, fun Z H σ Γ F0 R XR Q hs rs m k x => ?_⟩
  refine so Z H σ Γ F0 _ XR _ hs rs m (fun Z1 H1 Γ1 F1 t v G s1 e1 r1 p1 n1 q1 => ?_) x
  obtain ⟨a, dx, fs, g1, g2, g3⟩ := isI_at s1 p1 q1.1
  refine ⟨a, dx, fs, g1, g2, g3, ?_⟩
  refine sn Z1 H1 σ Γ1 F1 _ XR _ s1 r1 q1.2 (fun Z2 H2 Γ2 F2 as vs G2 s2 e2 r2 a2 n2 l2 q2 => ?_) (x.step e1)
  obtain ⟨kp, kn⟩ := e2.keeps p1 n1
  refine call_snd k x s2 ((e1.tr e2).sub fun a ha => ?_) r2 (.tm kp a2 fun a ha hb => kn a ha (List.mem_append_right _ hb)) (fun a ha hb => ?_) (by rw [List.length_cons, l2]; exact hn) q2
  · simp only [List.mem_append] at ha ⊢
    rcases ha with h | h | h
    · exact .inl (.inl h)
    · exact .inr h
    · exact .inl (.inr h)
  · rcases List.mem_append.mp ha with h | h
    · exact kn a h (List.mem_append_left _ hb)
    · exact n2 a h hb
theorem ve_methE0 {mo : ME} (ho : VE X W o mo) (c : Cls X.K C) (hm : Meth X.K C mt fa) (F : VFn X lv fa fd ps sp) (hr : RoomG lv X.A) (hb : Binds X.K fd ps []) (tk : Takes X W) (hn : 1 = ps.length := by rfl)
    {pl : Sem Bool}
    (ht : eval (.Call (.Attribute o mt apos) [] [] pos) X.env = (do
      let recv ← eval o X.env
      standAt apos.atName
      let (fn, fst) ← holding [recv] (getMethod recv mt pl)
      callWith pos fn fst (backTo pos (starEach [] X.env)) (backToKw pos (keywordEach [] X.env))) := by rfl) :
    VE X W (.Call (.Attribute o mt apos) [] [] pos) (mMethE C mt mo sp g0) := by
  obtain ⟨to, po, so⟩ := ho.ex
  refine ⟨_, pe_mS0 po c hm F hr hb (fun σ => passAt tk σ) ht, fun Z H σ Γ F0 R XR Q hs rs m k x => ?_⟩
  refine so Z H σ Γ F0 _ XR _ hs rs m (fun Z1 H1 Γ1 F1 t v G s1 e1 r1 p1 n1 q1 => ?_) x
  obtain ⟨a, dx, fs, g1, g2, g3⟩ := isI_at s1 p1 q1.1
  refine ⟨a, dx, fs, g1, g2, g3, ?_⟩
  exact call_snd (as := [.tm t]) (vs := [v]) (G := G ++ []) k x s1 (by simpa using e1) r1 (.tm p1 .nil (fun a _ hb => absurd hb (by simp))) (by simpa using n1) hn q1.2

/-! ### instances made -/
theorem mk_runS {s0 : Sp} {E : XK} {pn : List (Addr × Obj)} {σ : St} {H : Hp} {st : Shared} {Q : VK} {us : List Value} {vs : List V} (M : Mk X.K C fa) (F : FnG X.prog X.w X.K X.mg X.base lv fa fd ps s0) (hr : RoomG (lv + 1) X.A) (hb : Binds X.K fd ps []) (hx : PassesAt (L2.CX X.prog X.w) X σ E)
    (inv : Inv X pn σ H st) (r : Vals vs us) (h : ∀ x dx, H x = none → H dx = none → dx ≠ x → s0 (.ref x :: vs) (upd (upd H dx (.own x)) x (.ins C dx [])) (fun v H2 => v = .non ∧ Q (.ref x) H2) E) :
    wpAny (model X.prog X.w) X.A (call (.ref C) us) (EP X pn σ Q) X.xe st := by
  have want := h (st.heap.objs.size + 1) st.heap.objs.size (inv.hok.fresh (Nat.le_succ _)) (inv.hok.fresh (Nat.le_refl _)) (Nat.ne_of_lt (Nat.lt_succ_self _))
  have made := Inv.made (C := C) inv
  have rel : Vals (V.ref (st.heap.objs.size + 1) :: vs) (Value.ref (st.heap.objs.size + 1) :: us) := Paired.cons rfl r
  have len : (Value.ref (st.heap.objs.size + 1) :: us).length = ps.length := rel.length.symm.trans (F.len _ _ _ _ want)
  have bt := hb _ (Value.ref (st.heap.objs.size + 1) :: us) made.kIn (by rw [List.append_nil]; exact len)
  rw [List.append_nil] at bt
  refine wpAny_call (make_map (f := fa) inv.kIn M.makes M.init (beq_iff_eq.mp M.fn) (codeAny_mono (F.run _ X.stack _ _ ⟨Value.ref (st.heap.objs.size + 1) :: us, []⟩ _ _ _ E (hr.make C us []) (made.env0.make C us []) bt rel want) fun res s' hres => ?_))
  cases res with
  | error z => exact hx pn _ _ z s' made hres
  | ok fl =>
    cases fl with
    | ret u =>
      obtain ⟨v, H', i3, rv, ev, q3⟩ := made.after hres
      subst ev
      exact ⟨rv, ⟨.ref (st.heap.objs.size + 1), H', i3, rfl, q3⟩⟩
    | _ => exact hres.elim
theorem pe_kS {s0 : Sp} {E : St → XK} {t : TA} (M : Mk X.K C fa) (F : FnG X.prog X.w X.K X.mg X.base lv fa fd ps s0) (hr : RoomG (lv + 1) X.A) (hg : Gl X nm) (hm : X.mg nm = some (.ref C)) (hb : Binds X.K fd ps []) (hx : ∀ σ, PassesAt (L2.CX X.prog X.w) X σ (E σ))
    (ha : PA X (e :: es) t) (hdb : (nm == ("__debug__" : Str)) = false := by decide) (he : starEach (e :: es) X.env = (false, eval e X.env) :: starEach es X.env := by rfl) (hpl : (backTo pos (starEach es X.env)).any (·.1) = false := by rfl) :
    PE X (.Call (.Name nm p) (e :: es) [] pos) (fun σ H Q => t σ H fun vs H1 => ∀ x dx, H1 x = none → H1 dx = none → dx ≠ x → s0 (.ref x :: vs) (upd (upd H1 dx (.own x)) x (.ins C dx [])) (fun v H2 => v = .non ∧ Q (.ref x) H2) (E σ)) := by
  constructor
  intro pn st σ H Q inv want
  apply wpAny_Call_Name_kw
  apply ld_glob inv hg hm _ hdb
  apply PySem.W.callWith_K (h₀ := X.base) inv.ok.mod.kin M.kp _ he hpl
  apply thn (ha.run pos pn st σ H _ inv want)
  rintro us s1 ⟨vs, H1, i1, r, q⟩
  exact ⟨i1.kIn, mk_runS M F hr hb (hx σ) i1 r q⟩
/-- a call whose first argument is owned and comes back -/
theorem call_own {n : Nat} {Z1 H1 : Hp} {σ : St} {F1 G G0 : List Addr} {Γ : Sl} {R0 : T → Sl → Prop} {XR0 : XRl} {Q0 : VK} {E0 : XK} {as : List AV} {vs : List V} {t0 : T} {v0 : V}
    (s1 : Same Z1 H1) (r1 : Rsl X.K Z1 H1 Γ σ F1) (a1 : Avs X.K Z1 H1 σ as vs G) (n1 : ∀ x ∈ G, x ∉ F1) (p0 : Rp X.K Z1 H1 t0 v0 G0) (n0 : ∀ x ∈ G0, x ∉ F1 ∧ x ∉ G) (hn : vs.length + 1 = n) (q : argT as Γ fun ts => sp (t0 :: ts) R0 XR0)
    (hQ : ∀ Z' H' v r x Γq F' Fx Gr, Same Z' H' → Ext Z1 H1 (F1 ++ (G ++ G0)) Z' H' (F' ++ (Fx ++ Gr)) → Rsl X.K Z' H' (wb as Γq (clr as Γ)) σ F' → Rsl X.K Z' H' [x] [some v0] Fx → (∀ a ∈ Fx, a ∉ F') → Rp X.K Z' H' r v Gr → (∀ a ∈ Gr, a ∉ F' ∧ a ∉ Fx) → R0 r (x :: Γq) → Q0 v H')
    (hX : ∀ Z' H' C d fs Γp F', Same Z' H' → Ext Z1 H1 (F1 ++ (G ++ G0)) Z' H' F' → Rsl X.K Z' H' (wb as Γp.tail (clr as Γ)) σ F' → Xd X.K Z' d fs → XR0 C fs Γp → E0 (.ref C) d H') :
    lift X.K n sp (v0 :: vs) H1 Q0 E0 := by
  have h0 : ∀ x ∈ G, Z1 x = none := fun x hx => (a1.foot x hx).1
  have r2 := frz_slots r1 h0 n1
  have a2 := a1.freeze (frzH_same (H := H1) h0) frzH_at
  have s2 := frzH_below (F := G) s1
  have p2 : Rp X.K (frzH Z1 H1 G) H1 t0 v0 G0 := p0.mono (frzH_same h0) fun x hx => ⟨by rw [frzH_ne (n0 x hx).2]; exact (p0.foot x hx).1, rfl⟩
  obtain ⟨ts, F0, Fa, hk, r0, ra, m0, nd⟩ := args_out r2 a2 q
  have d0 : ∀ x ∈ G0, x ∉ Fa := fun x hx hx' => (n0 x hx).1 ((m0 x).mpr (.inr hx'))
  have d1 : ∀ x ∈ G0, x ∉ F0 := fun x hx hx' => (n0 x hx).1 ((m0 x).mpr (.inl hx'))
  have base : ∀ {Z' H' : Hp} {F' : List Addr}, Ext (frzH Z1 H1 G) H1 (G0 ++ Fa) Z' H' F' → Rsl X.K Z' H' (clr as Γ) σ F0 ∧ (∀ x ∈ F0, x ∉ F') ∧ Ext Z1 H1 (F1 ++ (G ++ G0)) Z' H' (F0 ++ F') := by
    intro Z' H' F' e
    have f0 : ∀ x ∈ F0, frzH Z1 H1 G x = none ∧ ∃ o, H1 x = some o := r0.foot
    have nf : ∀ x ∈ F0, x ∉ G0 ++ Fa := fun x hx hx' => (List.mem_append.mp hx').elim (fun z => d1 x z hx) fun z => nd x z hx
    refine ⟨r0.mono e.z fun x hx => ?_, fun x hx => ?_, ⟨(frzH_same h0).trans e.z, fun a h => ?_, fun a o h n => ?_⟩⟩
    · obtain ⟨hz, o, ho⟩ := f0 x hx
      refine ⟨?_, by rw [ho]; exact (e.fr x o ho (nf x hx)).1⟩
      cases q : Z' x with
      | none => rfl
      | some u =>
        rcases e.zn x (by rw [q]; simp) with h | h | h
        · exact absurd hz h
        · exact absurd h (nf x hx)
        · rw [ho] at h; cases h
    · obtain ⟨_, o, ho⟩ := f0 x hx
      exact (e.fr x o ho (nf x hx)).2
    · rcases e.zn a h with h | h | h
      · rcases frzH_zn h with h | h
        · exact .inl h
        · exact .inr (.inl (List.mem_append_right _ (List.mem_append_left _ h)))
      · rcases List.mem_append.mp h with h | h
        · exact .inr (.inl (List.mem_append_right _ (List.mem_append_right _ h)))
        · exact .inr (.inl (List.mem_append_left _ ((m0 a).mpr (.inr h))))
      · exact .inr (.inr h)
    · have na : a ∉ G0 ++ Fa := fun z => (List.mem_append.mp z).elim (fun z => n (List.mem_append_right _ (List.mem_append_right _ z))) fun z => n (List.mem_append_left _ ((m0 a).mpr (.inr z)))
      obtain ⟨h1, h2⟩ := e.fr a o h na
      exact ⟨h1, fun z => (List.mem_append.mp z).elim (fun z => n (List.mem_append_left _ ((m0 a).mpr (.inl z)))) h2⟩
  refine ⟨_, t0 :: ts, G0 ++ Fa, _, _, by simpa using hn, s2, .cons p2 ra d0, hk, fun Z' H' v r Γp Fp Gr s' e' rp rr nr qq => ?_, fun Z' H' C dd fs Γp Fp s' e' rp hd qq => ?_⟩
  · obtain ⟨rr0, nn0, ee⟩ := base e'
    have key : ∃ x Γq Fx Fq, Γp = x :: Γq ∧ Rsl X.K Z' H' [x] [some v0] Fx ∧ Rsl X.K Z' H' Γq (vs.map some) Fq ∧ (∀ a, a ∈ Fp ↔ a ∈ Fx ∨ a ∈ Fq) ∧ ∀ a ∈ Fx, a ∉ Fq := by
      rw [List.map_cons] at rp
      cases rp with
      | gap rp => exact ⟨none, _, [], _, rfl, .gap .nil, rp, fun a => by simp, fun a ha => absurd ha (by simp)⟩
      | @has t _ Ft _ _ Fq h1 rp nn => exact ⟨some t, _, Ft ++ [], Fq, rfl, .has h1 .nil (fun a _ hb => absurd hb (by simp)), rp, fun a => by simp, by simpa using nn⟩
    obtain ⟨x, Γq, Fx, Fq, rfl, rx, rq, mm, nx⟩ := key
    obtain ⟨F', rF, mF⟩ := args_in rr0 a2 rq (fun a ha hb => nn0 a hb (List.mem_append_left _ ((mm a).mpr (.inr ha))))
    refine hQ Z' H' v r x Γq F' Fx Gr s' (ee.sub fun a ha => ?_) rF rx (fun a ha hb => ?_) rr (fun a ha => ⟨fun hb => ?_, fun hb => nr a ha ((mm a).mpr (.inl hb))⟩) qq
    · rcases List.mem_append.mp ha with h | h
      · rcases mF a h with h | h
        · exact List.mem_append_left _ h
        · exact List.mem_append_right _ (List.mem_append_left _ ((mm a).mpr (.inr h)))
      · rcases List.mem_append.mp h with h | h
        · exact List.mem_append_right _ (List.mem_append_left _ ((mm a).mpr (.inl h)))
        · exact List.mem_append_right _ (List.mem_append_right _ h)
    · rcases mF a hb with h | h
      · exact nn0 a h (List.mem_append_left _ ((mm a).mpr (.inl ha)))
      · exact nx a ha h
    · rcases mF a hb with h | h
      · exact nn0 a h (List.mem_append_right _ ha)
      · exact nr a ha ((mm a).mpr (.inr h))
  · obtain ⟨rr0, nn0, ee⟩ := base e'
    have key : ∃ Fq, Rsl X.K Z' H' Γp.tail (vs.map some) Fq ∧ ∀ a ∈ Fq, a ∈ Fp := by
      rw [List.map_cons] at rp
      cases rp with
      | gap rp => exact ⟨_, rp, fun a h => h⟩
      | has h1 rp nn => exact ⟨_, rp, fun a h => List.mem_append_right _ h⟩
    obtain ⟨Fq, rq, mm⟩ := key
    obtain ⟨F', rF, mF⟩ := args_in rr0 a2 rq (fun a ha hb => nn0 a hb (mm a ha))
    refine hX Z' H' C dd fs Γp F' s' (ee.sub fun a ha => ?_) rF hd qq
    rcases mF a ha with h | h
    · exact List.mem_append_left _ h
    · exact List.mem_append_right _ (mm a h)
def mMake (C : Addr) (sp : VSp) (g : MG) : ME := fun Γ R XR => g Γ (fun as Γ' => argT as Γ' fun ts => sp (.bo C [] :: ts) (fun r Γp => r = .frz .non ∧ ∃ t Γq, Γp = some t :: Γq ∧ R t (wb as Γq (clr as Γ'))) (fun C fs Γp => XR C fs (wb as Γp.tail (clr as Γ')))) XR
/-- the new instance stands ahead of the other arguments -/
theorem ve_make {g : MG} (M : Mk X.K C fa) (F : VFn X lv fa fd ps sp) (hr : RoomG (lv + 1) X.A) (hg : Gl X nm) (hm : X.mg nm = some (.ref C)) (hb : Binds X.K fd ps []) (tk : Takes X W) (ha : VG X W (e :: es) g) (hn : (e :: es).length + 1 = ps.length := by rfl)
    (hdb : (nm == ("__debug__" : Str)) = false := by decide) (he : starEach (e :: es) X.env = (false, eval e X.env) :: starEach es X.env := by rfl) (hpl : (backTo pos (starEach es X.env)).any (·.1) = false := by rfl) :
    VE X W (.Call (.Name nm p) (e :: es) [] pos) (mMake C sp g) := by
  obtain ⟨t, pa, sn⟩ := ha.ex
  refine ⟨_, pe_kS M F hr hg hm hb (fun σ => passAt tk σ) pa hdb he hpl, fun Z H σ Γ F0 R XR Q hs rs m k x => ?_⟩
  refine sn Z H σ Γ F0 _ XR _ hs rs m (fun Z1 H1 Γ1 F1 as vs G s1 e1 r1 a1 n1 l1 q y dy ny ndy ne => ?_) x
  have ny' : upd H1 dy (.own y) y = none := by rw [upd_ne ne.symm]; exact ny
  have st1 : PStep Z1 H1 Z1 (upd (upd H1 dy (.own y)) y (.ins C dy [])) := (PStep.new s1 ndy).trans (PStep.new ((PStep.new s1 ndy).zh) ny')
  have yF : y ∉ F1 := fun h => by obtain ⟨_, o, ho⟩ := r1.foot y h; rw [ny] at ho; cases ho
  have yG : y ∉ G := fun h => by obtain ⟨_, o, ho⟩ := a1.foot y h; rw [ny] at ho; cases ho
  have aa : Avs X.K Z1 (upd (upd H1 dy (.own y)) y (.ins C dy [])) σ as vs G := a1.mono (.refl _) fun z hz => by
    obtain ⟨h1, o, ho⟩ := a1.foot z hz
    exact ⟨h1, by rw [ho]; exact st1.h _ _ ho⟩
  have p0 : Rp X.K Z1 (upd (upd H1 dy (.own y)) y (.ins C dy [])) (.bo C []) (.ref y) [y] := .bo (F := []) (fs := []) (fs' := []) upd_same (s1.free ny) rfl .nil (by simp)
  have ex : Ext Z H F0 Z1 (upd (upd H1 dy (.own y)) y (.ins C dy [])) (F1 ++ (G ++ [y])) := by
    have e2 : Ext Z1 H1 (F1 ++ G) Z1 (upd (upd H1 dy (.own y)) y (.ins C dy [])) ((F1 ++ G) ++ [y]) := st1.ext (by intro z hz; rw [List.mem_singleton.mp hz]; exact ny)
    rw [← List.append_assoc]
    exact e1.trans e2
  refine call_own (t0 := .bo C []) st1.zh (st1.slots r1) aa n1 p0 (fun z hz => by rw [List.mem_singleton.mp hz]; exact ⟨yF, yG⟩) (by rw [l1]; exact hn) q (fun Z' H' v r c Γq F' Fx Gr s' e' rF rx nx rr nr qq => ?_) (fun Z' H' C2 dd fs Γp F' s' e' rF hd qq => ?_)
  · obtain ⟨er, t, Γq', eq, qq⟩ := qq
    subst er
    cases eq
    cases rr with
    | frz rz =>
      cases rz
      refine ⟨rfl, ?_⟩
      cases rx with
      | @has _ _ Ft _ _ F3 h1 h2 h3 =>
        cases h2
        rw [List.append_nil] at nx e'
        refine k Z' H' _ F' t (.ref y) Ft s' ((ex.trans e').sub fun a ha => ?_) rF h1 nx qq
        rcases List.mem_append.mp ha with h | h
        · exact List.mem_append_left _ h
        · exact List.mem_append_right _ (by simpa using h)
  · exact x Z' H' _ F' C2 dd fs s' (ex.trans e') rF hd qq
end
end VL
set_option Elab.async false
set_option linter.all false
set_option autoImplicit false
set_option maxRecDepth 100000
set_option maxHeartbeats 2000000
/-! VL9: a def by its body; containers changed; several names stored. -/
namespace VL
open PySem PySem.Spec L2
open PyProof.Rows hiding St

def fin (np n : Nat) (Γ : Sl) : Sl := Γ.take np ++ List.replicate (n - np) none
def begin_ (N : List Str) (ts : List T) : Sl := ts.map some ++ List.replicate (N.length - ts.length) none
def dEnds (np n : Nat) (R : T → Sl → Prop) (XR : XRl) : VEnds where
  nx := fun Γ => R (.frz .non) (fin np n Γ)
  rt := fun t Γ => R t (fin np n Γ)
  bk := fun _ => False
  ct := fun _ => False
  xr := fun C fs Γ => XR C fs (fin np n Γ)
section
variable {K : PySem.W.Frag} {Z H : Hp}
theorem rsl_begin : ∀ {ts : List T} {vs : List V} {F : List Addr} (n : Nat), Rps K Z H ts vs F → Rsl K Z H (ts.map some ++ List.replicate n none) (vs.map some ++ List.replicate n none) F
  | [], _, _, 0, .nil => .nil
  | [], _, _, n + 1, .nil => .gap (rsl_begin n .nil)
  | t :: ts, _, _, n, .cons h r d => .has h (rsl_begin n r) d
theorem rsl_none : ∀ (σ : St), Rsl K Z H (List.replicate σ.length none) σ []
  | [] => .nil
  | _ :: σ => .gap (rsl_none σ)
theorem rsl_fin : ∀ {Γ : Sl} {σ : St} {F : List Addr} {vs : List V} (np : Nat), Rsl K Z H Γ σ F → np ≤ vs.length → σ.take np = (vs.map some).take np → ∃ F', Rsl K Z H (fin np vs.length Γ) (vs.map some) F' ∧ ∀ x ∈ F', x ∈ F
  | Γ, σ, F, vs, 0, _, _, _ => ⟨[], by
      have := rsl_none (K := K) (Z := Z) (H := H) (vs.map some)
      rw [List.length_map] at this
      simpa [fin] using this, fun x hx => absurd hx (by simp)⟩
  | _, _, _, [], np + 1, _, h, _ => absurd h (by simp)
  | _, _, _, v :: vs, np + 1, .nil, _, e => by simp at e
  | _, _, _, v :: vs, np + 1, .gap (Γ := Γ) r, h, e => by
    simp only [List.map_cons, List.take_succ_cons, List.cons.injEq] at e
    obtain ⟨F', r', s⟩ := rsl_fin np r (by simpa using h) e.2
    refine ⟨F', ?_, s⟩
    have : fin (np + 1) (vs.length + 1) (none :: Γ) = none :: fin np vs.length Γ := by unfold fin; simp
    rw [List.length_cons, this]
    exact .gap r'
  | _, _, _, v :: vs, np + 1, .has (t := t) (Γ := Γ) hp r n, h, e => by
    simp only [List.map_cons, List.take_succ_cons, List.cons.injEq] at e
    obtain ⟨F', r', s⟩ := rsl_fin np r (by simpa using h) e.2
    have e1 := e.1
    simp only [Option.some.injEq] at e1
    subst e1
    have : fin (np + 1) (vs.length + 1) (some t :: Γ) = some t :: fin np vs.length Γ := by unfold fin; simp
    rw [List.length_cons, this]
    exact ⟨_, .has hp r' fun x hx hx' => n x hx (s x hx'), fun x hx => (List.mem_append.mp hx).elim (List.mem_append_left _) fun q => List.mem_append_right _ (s x q)⟩
end
section
variable {P : Program} {w : World} {K : PySem.W.Frag} {mg : Str → Option Value} {base : Heap}
/-- the context of a def's body -/
abbrev BX (P : Program) (w : World) (K : PySem.W.Frag) (mg : Str → Option Value) (base : Heap) (N : List Str) (qual : Str) (st : Stmt) (f : Addr) (cdv : Value) (A : Around) (outer : List Env) (s : Shared) (H : Hp) (E : XK) : Cx :=
  cxOf (L2.CX P w) P w K mg base N qual (defScope st) f cdv A outer s H E
abbrev BW (E : XK) : WX := fun cls d _ H => E cls d H
/-- a def's function object by its body, where nothing is being shown -/
theorem fnG_of {x qual : Str} {params : Arguments} {body : List Stmt} {scope : Scope} {dvs : List V} {kws : List (Str × V)} {f : Addr} {fd : FuncData} {N ps : List Str} {k : Nat} {sp : Sp} (F : FunD K x qual params body scope dvs kws f fd) (S : FnScope N ps scope) (len : ∀ vs H Q E, sp vs H Q E → vs.length = ps.length)
    (hbody : ∀ (cdv : Value) (A : Around) (outer : List Env) (s : Shared) (H : Hp) (vs : List V) (Q : VK) (E : XK), RoomG k (A.deeper (envOfC qual scope s.heap.objs.size f cdv)) → sp vs H Q E → ∃ t, PSs (cxOf (L2.CX P w) P w K mg base N qual scope f cdv A outer s H E) body t ∧ t { nx := fun _ H' => Q .non H', rt := Q } (L2.start N vs) H) : FnG P w K mg base (k + 1) f fd ps sp := by
  obtain ⟨oc, od, dV, kV, doc, pm, an, cdv, ct, osl, rfl, lk, hcd, _, _⟩ := F.ex
  refine ⟨len, fun A outer s H args us vs Q E hr e0 hb rv hsp => ?_⟩
  have lv := len _ _ _ _ hsp
  have KX : K.In s.heap := e0.mod.kin.keeps fun b o e => (e0.bs b o e).1
  have nolim : s.heap.NoLimit := e0.mod.nolimit.keeps fun b o e => (e0.bs b o e).1
  have kinds : ∀ y ∈ ps.zip us, scope.names.lookup y.1 = some .local ∨ (scope.names.lookup y.1 = some .cell ∧ ((cellsFrom (s.heap.objs.size + 1) scope.names []).lookup y.1).isSome = true) := fun y hy => (S.par y.1 (List.of_mem_zip (a := y.1) (b := y.2) hy).1).elim .inl fun q => .inr ⟨q, PySem.W.cellsFrom_some _ _ _ (.inl q)⟩
  refine codeAny_call_function hr.room.depth (KX _ _ lk) rfl S.co S.gen rfl (PySem.W.codeRec_of KX hcd) (hb _ _ _ _ ?_)
  refine wpAny_newFunctionEnv_cells S.kind kinds fun env he st x => ?_
  cases he
  refine ⟨nolim.keeps x.toInCall.keep, codeAny_func ?_⟩
  obtain ⟨t, ht, hq⟩ := hbody cdv A outer s H vs Q E (hr.deeper _) hsp
  refine wpAny_mono (ht.run [] st (L2.start N vs) H _ (inv_start S hr.room.hd e0 lv rv x) hq) (fun fl s2 hs => ?_) fun _ _ z => z
  cases fl with
  | ret u =>
    obtain ⟨v, _, H2, J, ru, q⟩ := hs
    exact ⟨v, H2, J.os, J.bare, J.base, J.hok, ru, q⟩
  | next =>
    obtain ⟨_, H2, J, q⟩ := hs
    exact ⟨V.non, H2, J.os, J.bare, J.base, J.hok, rfl, q⟩
  | brk => obtain ⟨_, _, _, q⟩ := hs; exact q.elim
  | cont => obtain ⟨_, _, _, q⟩ := hs; exact q.elim
/-- THE RULE for a def -/
theorem vfn {x qual : Str} {st : Stmt} {dvs : List V} {kws : List (Str × V)} {f : Addr} {fd : FuncData} {N ps : List Str} {k : Nat} {sp : VSp} (np : Nat) (F : FunD K x qual (defArgs st) (defBody st) (defScope st) dvs kws f fd) (S : FnScope N ps (defScope st)) (hnp : np ≤ ps.length)
    (body : ∀ (cdv : Value) (A : Around) (outer : List Env) (s : Shared) (H : Hp) (E : XK), RoomG k (BX P w K mg base N qual st f cdv A outer s H E).A → Takes (BX P w K mg base N qual st f cdv A outer s H E) (BW E) → PassesOwn (model P w) (BX P w K mg base N qual st f cdv A outer s H E).A (BX P w K mg base N qual st f cdv A outer s H E).env (BX P w K mg base N qual st f cdv A outer s H E).xe →
      ∃ m, VSs (BX P w K mg base N qual st f cdv A outer s H E) (BW E) np (defBody st) m ∧ ∀ ts R XR, sp ts R XR → ts.length = ps.length → m (begin_ N ts) (dEnds np ps.length R XR)) :
    FnG P w K mg base (k + 1) f fd ps (lift K ps.length sp) := by
  refine fnG_of F S (fun vs H Q E h => ?_) (fun cdv A outer s H vs Q E hr h => ?_)
  · obtain ⟨Z, ts, F0, R, XR, hl, _⟩ := h
    exact hl
  · obtain ⟨Z, ts, F0, R, XR, hl, hs, rp, hsp, hR, hX⟩ := h
    obtain ⟨m, ⟨t, ps', sn⟩, hm⟩ := body cdv A outer s H E hr (takes_of rfl rfl rfl rfl) (passes_of rfl)
    have lt : ts.length = vs.length := Rps.length rp
    have e1 : N.length - ts.length = N.length - vs.length := by rw [lt]
    have st0 : start N vs = vs.map some ++ List.replicate (N.length - vs.length) none := rfl
    have tk : (start N vs).take np = (vs.map some).take np := by
      rw [st0, List.take_append_of_le_length (by rw [List.length_map, hl]; exact hnp)]
    refine ⟨t, ps', sn Z H (start N vs) (begin_ N ts) F0 (dEnds np ps.length R XR) _ hs ?_ (hm ts R XR hsp (lt.trans hl)) ⟨?_, ?_, ?_, ?_, ?_⟩⟩
    · unfold begin_
      rw [e1]
      exact rsl_begin _ rp
    · intro Z' H' σ' Γ' F' s1 e r pn q
      obtain ⟨F2, r2, sub⟩ := rsl_fin (vs := vs) np r (by omega) (pn.trans tk)
      rw [hl] at r2
      exact hR Z' H' .non (.frz .non) _ F2 [] s1 (by simpa using e.sub sub) r2 (.frz .non) (fun x hx => absurd hx (by simp)) q
    · intro Z' H' σ' Γ' F' s1 e r pn q
      exact q.elim
    · intro Z' H' σ' Γ' F' s1 e r pn q
      exact q.elim
    · intro Z' H' σ' Γ' F' rr v G s1 e r rv n pn q
      obtain ⟨F2, r2, sub⟩ := rsl_fin (vs := vs) np r (by omega) (pn.trans tk)
      rw [hl] at r2
      exact hR Z' H' v rr _ F2 G s1 (e.sub fun x hx => (List.mem_append.mp hx).elim (fun q => List.mem_append_left _ (sub x q)) (List.mem_append_right _)) r2 rv (fun x hx hx' => n x hx (sub x hx')) q
    · intro Z' H' σ' Γ' F' C dd fs s1 e r pn hd q
      obtain ⟨F2, r2, sub⟩ := rsl_fin (vs := vs) np r (by omega) (pn.trans tk)
      rw [hl] at r2
      exact hX Z' H' C dd fs _ F2 s1 (e.sub sub) r2 hd q
end

/-! ### containers changed in place: the container at a name -/
def slT (Γ : Sl) (i : Nat) (k : T → Prop) : Prop := match Γ[i]? with
  | some (some t) => k t
  | _ => False
theorem slT_at {Γ : Sl} {i : Nat} {k : T → Prop} (h : slT Γ i k) : ∃ t, Γ[i]? = some (some t) ∧ k t := by
  unfold slT at h
  split at h
  · exact ⟨_, by assumption, h⟩
  · exact h.elim
/-- one object of a slot's tree changed -/
theorem Rsl.chg {K : PySem.W.Frag} {Z H : Hp} {Γ : Sl} {σ : St} {F : List Addr} (rs : Rsl K Z H Γ σ F) {i : Nat} {t t' : T} {v : V} {G : List Addr} {H' : Hp} (et : Γ[i]? = some (some t)) (ev : σ[i]? = some (some v)) (rp : Rp K Z H t v G)
    (hk : ∀ a, a ∉ G → H' a = H a) {G' : List Addr} (rp' : Rp K Z H' t' v G') (sub : ∀ x ∈ G', x ∈ G) : ∃ F', Rsl K Z H' (Γ.set i (some t')) σ F' ∧ ∀ x ∈ F', x ∈ F := by
  obtain ⟨v2, G2, F0, ev2, rp2, rs0, mm, nn⟩ := rs.out et
  rw [ev] at ev2
  cases ev2
  have hG : ∀ x, x ∈ G2 ↔ x ∈ G := by
    have uniq : ∀ {t : T} {v : V} {G1 G2 : List Addr}, Rp K Z H t v G1 → Rp K Z H t v G2 → G1 = G2 := Rp.foot_eq
    intro x
    rw [uniq rp2 rp]
  have r1 : Rsl K Z H' (Γ.set i none) σ F0 := rs0.mono (.refl _) fun x hx => by
    obtain ⟨hz, o, ho⟩ := rs0.foot x hx
    exact ⟨hz, hk x fun q => nn x ((hG x).mpr q) hx⟩
  have hi : i < (Γ.set i none).length := by rw [List.length_set]; exact (List.getElem?_eq_some_iff.mp et).1
  obtain ⟨F', r2, m2⟩ := r1.put hi rp' (fun x hx hx' => nn x ((hG x).mpr (sub x hx)) hx')
  rw [set_same ev, List.set_set] at r2
  exact ⟨F', r2, fun x hx => (m2 x hx).elim (fun h => (mm x).mpr (.inr h)) fun h => (mm x).mpr (.inl ((hG x).mpr (sub x h)))⟩
/-- what a method that changes its receiver says: of the receiver's tree and the arguments' data, the answer and the tree behind -/
def MutV (X : Cx) (ty : String) (id : String) (isTy : T → Prop) (op : T → List D → (D → T → Prop) → Prop) : Prop :=
  ∃ r, MtM X id r ∧ (∀ Z H t v G, Same Z H → Rp X.K Z H t v G → isTy t → tyV X.K ty v H) ∧
    ∀ Z H t v G ds vs (R : D → T → Prop) (Q : VK), Same Z H → Rp X.K Z H t v G → Rzs X.K Z ds vs → op t ds R →
      (∀ H' t' G' d u, Same Z H' → (∀ a, a ∉ G → H' a = H a) → Rp X.K Z H' t' v G' → (∀ x ∈ G', x ∈ G) → Rz X.K Z d u → R d t' → Q u H') → r v vs H Q
def mMut (i : Nat) (isTy : T → Prop) (op : T → List D → (D → T → Prop) → Prop) (g : MA) : ME := fun Γ R XR => slT Γ i isTy ∧ g Γ (fun ts Γ' => slT Γ' i fun t => op t (ts.map T.toD) fun d t' => R (.frz d) (Γ'.set i (some t'))) XR
section
variable {X : Cx} {W : WX}
theorem mut_snd {ty id : String} {isTy : T → Prop} {op : T → List D → (D → T → Prop) → Prop} {r : V → List V → Hp → VK → Prop}
    (h2 : ∀ Z H t v G ds vs (R : D → T → Prop) (Q : VK), Same Z H → Rp X.K Z H t v G → Rzs X.K Z ds vs → op t ds R →
      (∀ H' t' G' d u, Same Z H' → (∀ a, a ∉ G → H' a = H a) → Rp X.K Z H' t' v G' → (∀ x ∈ G', x ∈ G) → Rz X.K Z d u → R d t' → Q u H') → r v vs H Q)
    {Z H Z1 H1 : Hp} {σ : St} {F F1 G1 : List Addr} {Γ1 : Sl} {R : T → Sl → Prop} {Q : VK} {i : Nat} {v : V} {ts : List T} {vs : List V}
    (k : KOk X.K Z H F σ R Q) (s1 : Same Z1 H1) (e1 : Ext Z H F Z1 H1 (F1 ++ G1)) (r1 : Rsl X.K Z1 H1 Γ1 σ F1) (p1 : Rps X.K Z1 H1 ts vs G1) (n1 : ∀ x ∈ G1, x ∉ F1) (ev : σ[i]? = some (some v))
    (q1 : slT Γ1 i fun t => op t (ts.map T.toD) fun d t' => R (.frz d) (Γ1.set i (some t'))) : r v vs H1 Q := by
  obtain ⟨t, et, q⟩ := slT_at q1
  obtain ⟨f1, f2, f3, f4⟩ := frz_args s1 r1 p1 n1
  obtain ⟨v2, G, ev2, rp, sub⟩ := f3.at et
  rw [ev] at ev2
  cases ev2
  refine h2 _ H1 t v G _ vs _ Q f2 rp f4 q (fun H' t' G' d u sm hk rp' sub' rz qq => ?_)
  obtain ⟨F', r', m'⟩ := f3.chg et ev rp hk rp' sub'
  have ex := ext_frz e1 fun x hx => (p1.foot x hx).1
  have ex2 : Ext (frzH Z1 H1 G1) H1 F1 (frzH Z1 H1 G1) H' F' := ⟨.refl _, fun a h => .inl h, fun a o h n => ⟨by rw [hk a fun q => n (sub a q)]; exact h, fun q => n (m' a q)⟩⟩
  exact k _ H' _ F' (.frz d) u [] sm (by simpa using ex.trans ex2) r' (.frz rz) (fun x hx => absurd hx (by simp)) qq
theorem ve_mut1 {ty id : String} {isTy : T → Prop} {op : T → List D → (D → T → Prop) → Prop} {name x : Str} {i : Nat} {px apos cpos : Pos} {e : Expr} {es : List Expr} {g : MA}
    (pa : PlainAttrs ty) (slot : Slot ty name id) (hty : typeOf (.builtin id) = pure (.type "method_descriptor")) (h : MutV X ty id isTy op) (ha : VA X W (e :: es) g)
    (hN : X.N[i]? = some x := by rfl) (hv : Vis X.env.scope x := by first | exact Or.inl rfl | exact Or.inr (Or.inl rfl) | exact Or.inr (Or.inr rfl)) (hd : (x == ("__debug__" : Str)) = false := by decide) (hcd : (x == ("__classdict__" : Str)) = false := by decide)
    (hbase : attributeBase (.Name x px) name X.env (eval (.Name x px) X.env) = eval (.Name x px) X.env := by rfl)
    (hfew : ((backTo cpos (starEach (e :: es) X.env)).all (fun x => !x.1) && (backToKw cpos (keywordEach [] X.env)).all (fun x => x.1.isSome) && decide ((e :: es).length + ([] : List Keyword).length + (if ([] : List Keyword).isEmpty then 0 else 1) < 30)) = true := by rfl)
    (hline : (apos.endLine == cpos.line) = true := by rfl) (hs : starEach (e :: es) X.env = (false, eval e X.env) :: starEach es X.env := by rfl) (hplain : (backTo cpos (starEach es X.env)).any (·.1) = false := by rfl) :
    VE X W (.Call (.Attribute (.Name x px) name apos) (e :: es) [] cpos) (mMut i isTy op g) := by
  obtain ⟨r, h1, ht, h2⟩ := h
  obtain ⟨t, pe, sn⟩ := ha.ex
  refine ⟨_, pe_bm pa slot hty h1 (pe_var hN hv hd hcd) pe hbase hfew hline hs hplain, fun Z H σ Γ F R XR Q hs rs m k x => ?_⟩
  obtain ⟨t, et, hti⟩ := slT_at m.1
  obtain ⟨v, G, ev, rp, _⟩ := rs.at et
  refine ⟨v, ev, ht Z H t v G hs rp hti, ?_⟩
  exact sn Z H σ Γ F _ XR _ hs rs m.2 (fun Z1 H1 Γ1 F1 ts vs G1 s1 e1 r1 p1 n1 l1 q1 => mut_snd (ty := ty) (id := id) (isTy := isTy) h2 k s1 e1 r1 p1 n1 ev q1) x
theorem ve_mut0 {ty id : String} {isTy : T → Prop} {op : T → List D → (D → T → Prop) → Prop} {name x : Str} {i : Nat} {px apos cpos : Pos}
    (pa : PlainAttrs ty) (slot : Slot ty name id) (hty : typeOf (.builtin id) = pure (.type "method_descriptor")) (h : MutV X ty id isTy op)
    (hN : X.N[i]? = some x := by rfl) (hv : Vis X.env.scope x := by first | exact Or.inl rfl | exact Or.inr (Or.inl rfl) | exact Or.inr (Or.inr rfl)) (hd : (x == ("__debug__" : Str)) = false := by decide) (hcd : (x == ("__classdict__" : Str)) = false := by decide)
    (hbase : attributeBase (.Name x px) name X.env (eval (.Name x px) X.env) = eval (.Name x px) X.env := by rfl) (hline : (apos.endLine == cpos.line) = true := by rfl) :
    VE X W (.Call (.Attribute (.Name x px) name apos) [] [] cpos) (mMut i isTy op mA0) := by
  obtain ⟨r, h1, ht, h2⟩ := h
  refine ⟨_, pe_bm0 pa slot hty h1 (pe_var hN hv hd hcd) hbase hline, fun Z H σ Γ F R XR Q hs rs m k x => ?_⟩
  obtain ⟨t, et, hti⟩ := slT_at m.1
  obtain ⟨v, G, ev, rp, _⟩ := rs.at et
  refine ⟨v, ev, ht Z H t v G hs rp hti, ?_⟩
  exact mut_snd (ty := ty) (id := id) (isTy := isTy) (ts := []) (vs := []) (G1 := []) h2 k hs (by simpa using Ext.refl Z H F) rs .nil (fun x hx => absurd hx (by simp)) ev m.2
def T.isBl (t : T) : Prop := match t with
  | .bl _ => True
  | _ => False
def T.isBd (t : T) : Prop := match t with
  | .bd _ => True
  | _ => False
theorem ty_bl {K : PySem.W.Frag} {Z H : Hp} {t : T} {v : V} {G : List Addr} (r : Rp K Z H t v G) (h : t.isBl) : tyV K "list" v H := by
  cases r with
  | bl h1 _ _ => exact .inl ⟨rfl, _, .inl (.inl h1)⟩
  | _ => exact h.elim
theorem ty_bd {K : PySem.W.Frag} {Z H : Hp} {t : T} {v : V} {G : List Addr} (r : Rp K Z H t v G) (h : t.isBd) : tyV K "dict" v H := by
  cases r with
  | bd h1 _ _ _ => exact .inr (.inr (.inl ⟨rfl, .inl ⟨_, h1⟩⟩))
  | _ => exact h.elim
theorem chg_bl {K : PySem.W.Frag} {Z H : Hp} {a : Addr} {ds' : List D} {vs' : List V} (hz : Z a = none) (r : Rzs K Z ds' vs') : Rp K Z (upd H a (.lst vs')) (.bl ds') (.ref a) [a] := .bl upd_same hz r
theorem same_chg {Z H : Hp} (hs : Same Z H) {a : Addr} {o : HO} (hz : Z a = none) : Same Z (upd H a o) := fun b u e => by rw [upd_ne (ne_of_none e hz)]; exact hs _ _ e
def oAppend : T → List D → (D → T → Prop) → Prop := fun t es R => ∃ ds e, t = .bl ds ∧ es = [e] ∧ ds.length < sizeLine ∧ R .non (.bl (ds ++ [e]))
theorem mv_append : MutV X "list" "list.append" T.isBl oAppend := ⟨_, mt_append, fun _ _ _ _ _ _ r h => ty_bl r h, fun Z H t v G es us R Q hs rp rz ⟨ds, e, e1, e2, hl, q⟩ k => by
  subst e1; subst e2
  cases rp with
  | @bl _ vs a h1 h2 h3 =>
    cases rz with
    | cons r0 rn =>
      cases rn
      refine ⟨a, vs, _, rfl, rfl, h1, by rw [← h3.length]; exact hl, ?_⟩
      exact k _ (.bl (ds ++ [e])) [a] .non .non (same_chg hs h2) (fun b hb => upd_ne fun z => hb (by rw [z]; simp)) (chg_bl h2 (h3.append (.one r0))) (fun x hx => hx) .non q⟩
def oPop : T → List D → (D → T → Prop) → Prop := fun t es R => ∃ ds e, t = .bl ds ∧ es = [] ∧ ds[ds.length - 1]? = some e ∧ R e (.bl ds.dropLast)
theorem rzs_dropLast {K : PySem.W.Frag} {Z : Hp} {ds : List D} {vs : List V} (r : Rzs K Z ds vs) : Rzs K Z ds.dropLast vs.dropLast := by
  rw [List.dropLast_eq_take, List.dropLast_eq_take, r.length]
  exact r.take _
theorem mv_pop : MutV X "list" "list.pop" T.isBl oPop := ⟨_, mt_pop, fun _ _ _ _ _ _ r h => ty_bl r h, fun Z H t v G es us R Q hs rp rz ⟨ds, e, e1, e2, hl, q⟩ k => by
  subst e1; subst e2
  cases rz
  cases rp with
  | @bl _ vs a h1 h2 h3 =>
    obtain ⟨u, hu, ru⟩ := h3.get hl
    rw [h3.length] at hu
    refine ⟨a, vs, u, rfl, rfl, h1, hu, ?_⟩
    exact k _ (.bl ds.dropLast) [a] e u (same_chg hs h2) (fun b hb => upd_ne fun z => hb (by rw [z]; simp)) (chg_bl h2 (rzs_dropLast h3)) (fun x hx => hx) ru q⟩
def oPopAt : T → List D → (D → T → Prop) → Prop := fun t es R => ∃ ds i k e, t = .bl ds ∧ es = [.int i] ∧ -(2 ^ 63) ≤ i ∧ i < 2 ^ 63 ∧ seqIndex? i ds.length = some k ∧ ds[k]? = some e ∧ R e (.bl (ds.eraseIdx k))
theorem mv_popAt : MutV X "list" "list.pop" T.isBl oPopAt := ⟨_, mt_popAt, fun _ _ _ _ _ _ r h => ty_bl r h, fun Z H t v G es us R Q hs rp rz ⟨ds, i, j, e, e1, e2, b1, b2, hj, hl, q⟩ k => by
  subst e1; subst e2
  cases rp with
  | @bl _ vs a h1 h2 h3 =>
    cases rz with
    | cons r0 rn =>
      cases rn
      cases r0
      obtain ⟨u, hu, ru⟩ := h3.get hl
      refine ⟨a, vs, i, j, u, rfl, rfl, h1, b1, b2, by rw [← h3.length]; exact hj, hu, ?_⟩
      exact k _ (.bl (ds.eraseIdx j)) [a] e u (same_chg hs h2) (fun b hb => upd_ne fun z => hb (by rw [z]; simp)) (chg_bl h2 (h3.eraseIdx j)) (fun x hx => hx) ru q⟩
end
end VL
set_option Elab.async false
set_option linter.all false
set_option autoImplicit false
set_option maxRecDepth 100000
set_option maxHeartbeats 2000000
/-! VL10: targets, loops. -/
namespace VL
open PySem PySem.Spec L2
open PyProof.Rows hiding St

/-! ### targets -/
abbrev MG1 := D → Sl → (Sl → Prop) → Prop
def SndTg (K : PySem.W.Frag) (np : Nat) (t : TG) (g : MG1) : Prop :=
  ∀ Z H σ Γ F d v (R : Sl → Prop) (Q : St → Hp → Prop), Same Z H → Rsl K Z H Γ σ F → Rz K Z d v → g d Γ R →
    (∀ Z' H' σ' Γ' F', Same Z' H' → Ext Z H F Z' H' F' → Rsl K Z' H' Γ' σ' F' → σ'.take np = σ.take np → R Γ' → Q σ' H') → t v σ H Q
def SndTgs (K : PySem.W.Frag) (np : Nat) (t : TGs) (g : List D → Sl → (Sl → Prop) → Prop) : Prop :=
  ∀ Z H σ Γ F d v (R : Sl → Prop) (Q : St → Hp → Prop), Same Z H → Rsl K Z H Γ σ F → Rzs K Z d v → g d Γ R →
    (∀ Z' H' σ' Γ' F', Same Z' H' → Ext Z H F Z' H' F' → Rsl K Z' H' Γ' σ' F' → σ'.take np = σ.take np → R Γ' → Q σ' H') → t v σ H Q
structure VTg (X : Cx) (np : Nat) (tg : Expr) (g : MG1) : Prop where
  ex : ∃ t, PG X tg t ∧ SndTg X.K np t g
structure VTgs (X : Cx) (np : Nat) (tg : List Expr) (g : List D → Sl → (Sl → Prop) → Prop) : Prop where
  ex : ∃ t, PGs X tg t ∧ SndTgs X.K np t g
def tN (i : Nat) : MG1 := fun d Γ R => i < Γ.length ∧ R (Γ.set i (some (.frz d)))
def tNil : List D → Sl → (Sl → Prop) → Prop := fun ds Γ R => ds = [] ∧ R Γ
def tCons (g : MG1) (gs : List D → Sl → (Sl → Prop) → Prop) : List D → Sl → (Sl → Prop) → Prop := fun ds Γ R => ∃ d r, ds = d :: r ∧ g d Γ fun Γ' => gs r Γ' R
def tTup (n : Nat) (gs : List D → Sl → (Sl → Prop) → Prop) : MG1 := fun d Γ R => ∃ ds, d = .tup ds ∧ ds.length = n ∧ gs ds Γ R
section
variable {X : Cx} {np : Nat} {pos : Pos}
theorem vtg_name {i : Nat} {x : Str} (hN : X.N.Nodup) (hp : np ≤ i := by decide) (hi : X.N[i]? = some x := by rfl) (hx : Loc X.env.scope x := by first | exact Or.inl rfl | exact Or.inr rfl) (hf : X.fn x = true ∨ X.env.scope.names.lookup x = some .local := by first | exact .inl rfl | exact .inr rfl) : VTg X np (.Name x pos) (tN i) :=
  ⟨_, pg_name hN hi hx hf, fun Z H σ Γ F d v R Q hs rs rz m k => by
    obtain ⟨F', rs', sub⟩ := rs.put m.1 (.frz rz) (fun x hx => absurd hx (by simp))
    exact k Z H _ _ F' hs ((Ext.refl Z H F).sub fun x hx => (sub x hx).elim (fun h => h) fun h => absurd h (by simp)) rs' (take_set hp) m.2⟩
theorem vtgs_nil : VTgs X np [] tNil := ⟨_, pgs_nil, fun Z H σ Γ F d v R Q hs rs rz m k => by
  obtain ⟨e, m⟩ := m
  subst e
  cases rz
  exact ⟨rfl, k Z H _ _ F hs (.refl ..) rs rfl m⟩⟩
theorem vtgs_cons {e : Expr} {es : List Expr} {g : MG1} {gs : List D → Sl → (Sl → Prop) → Prop} (h : VTg X np e g) (hh : VTgs X np es gs)
    (hs : (assignEach (e :: es) X.env).map (·.2) = assign e X.env :: (assignEach es X.env).map (·.2) := by rfl) : VTgs X np (e :: es) (tCons g gs) := by
  obtain ⟨t, pg, sn⟩ := h.ex
  obtain ⟨t', pg', sn'⟩ := hh.ex
  refine ⟨_, pgs_cons pg pg' hs, fun Z H σ Γ F d v R Q hs rs rz m k => ?_⟩
  obtain ⟨d0, r, e, m⟩ := m
  subst e
  cases rz with
  | cons r0 rr =>
    refine ⟨_, _, rfl, sn Z H σ Γ F d0 _ _ _ hs rs r0 m fun Z1 H1 σ1 Γ1 F1 s1 e1 rs1 p1 q1 => ?_⟩
    exact sn' Z1 H1 σ1 Γ1 F1 r _ R _ s1 rs1 (rr.mono e1.z) q1 fun Z2 H2 σ2 Γ2 F2 s2 e2 rs2 p2 q2 => k Z2 H2 _ _ F2 s2 (e1.trans e2) rs2 (p2.trans p1) q2
theorem vtg_tup {es : List Expr} {kk : Nat} {gs : List D → Sl → (Sl → Prop) → Prop} (hc : X.calm = true) (h : VTgs X np es gs)
    (hn : (assignEach es X.env).length = es.length := by rfl) (hst : (assignEach es X.env).findIdx? (·.1) = none := by rfl) : VTg X np (.Tuple es kk pos) (tTup es.length gs) := by
  obtain ⟨t, pg, sn⟩ := h.ex
  refine ⟨_, pg_tup hc pg hn hst, fun Z H σ Γ F d v R Q hs rs rz m k => ?_⟩
  obtain ⟨ds, e, hl, m⟩ := m
  subst e
  cases rz with
  | tup h1 h2 => exact ⟨_, _, rfl, SqT.mono (rd_same hs) h1, h2.length.symm.trans hl, sn Z H σ Γ F ds _ R _ hs rs h2 m k⟩
/-- target = value, frozen -/
def sAsg (m : ME) (g : MG1) : MS := fun Γ M => m Γ (fun t Γ' => g t.toD Γ' M.nx) M.xr
theorem vs_asg {W : WX} {tg e : Expr} {m : ME} {g : MG1} (h : VE X W e m) (hg : VTg X np tg g) (hs : swapsWithSole [tg] e pos.line X.env = pure false := by rfl) (hw : swappedStores [tg] e X.env = pure none := by rfl)
    (h1 : (assignEach [tg] X.env).map (·.2) = [assign tg X.env] := by rfl) : VS X W np (.Assign [tg] e pos) (sAsg m g) := by
  obtain ⟨t, pe, sn⟩ := h.ex
  obtain ⟨u, pg, sg⟩ := hg.ex
  refine ⟨_, ps_asg pe pg hs hw h1, fun Z H σ Γ F M E hs rs m k => sn Z H σ Γ F _ M.xr _ hs rs m (fun Z' H' Γ' F' r v G s1 e1 r1 p1 n1 q => ?_) k.xok⟩
  have h0 : ∀ x ∈ G, Z' x = none := fun x hx => (p1.foot x hx).1
  have r2 := frz_slots r1 h0 n1
  have rz := p1.freeze (frzH_same (H := H') h0) frzH_at
  have s2 := frzH_below (F := G) s1
  have e2 := ext_frz e1 h0
  exact sg _ H' σ Γ' F' _ v _ _ s2 r2 rz q fun Z3 H3 σ' Γ2 F2 s3 e3 rs2 p2 q2 => k.nx Z3 H3 σ' Γ2 F2 s3 (e2.trans e3) rs2 p2 q2
/-! ### several names at once -/
def sPar (i j : Nat) (g : MA) : MS := fun Γ M => g Γ (fun ts Γ' => ∃ a b, ts = [a, b] ∧ i < Γ'.length ∧ j < Γ'.length ∧ M.nx ((Γ'.set i (some a)).set j (some b))) M.xr
def sPar3 (i j l : Nat) (g : MA) : MS := fun Γ M => g Γ (fun ts Γ' => ∃ a b c, ts = [a, b, c] ∧ i < Γ'.length ∧ j < Γ'.length ∧ l < Γ'.length ∧ M.nx (((Γ'.set i (some a)).set j (some b)).set l (some c))) M.xr
theorem vs_par {W : WX} {i j : Nat} {x y : Str} {a b : Expr} {g : MA} {px py pt : Pos} {kt k2 pt2} (hc : X.calm = true) (hN : X.N.Nodup) (ha : VA X W [a, b] g) (hpi : np ≤ i := by decide) (hpj : np ≤ j := by decide) (hij : i ≠ j := by decide) (hi : X.N[i]? = some x := by rfl) (hj : X.N[j]? = some y := by rfl)
    (hx : X.env.scope.names.lookup x = some .local := by rfl) (hy : X.env.scope.names.lookup y = some .local := by rfl)
    (hw : swappedStores [.Tuple [.Name x px, .Name y py] kt pt] (.Tuple [a, b] k2 pt2) X.env = pure (some [x, y]) := by rfl)
    (hs : swapsWithSole [.Tuple [.Name x px, .Name y py] kt pt] (.Tuple [a, b] k2 pt2) pos.line X.env = pure false := by rfl) : VS X W np (.Assign [.Tuple [.Name x px, .Name y py] kt pt] (.Tuple [a, b] k2 pt2) pos) (sPar i j g) := by
  obtain ⟨t, pa, sn⟩ := ha.ex
  refine ⟨_, ps_par hc hN hi hj hij hx hy pa hw hs, fun Z H σ Γ F M E hs rs m k => sn Z H σ Γ F _ M.xr _ hs rs m (fun Z' H' Γ' F' ts vs G s1 e1 r1 p1 n1 l1 q => ?_) k.xok⟩
  obtain ⟨ta, tb, e, li, lj, q⟩ := q
  subst e
  cases p1 with
  | @cons _ va Fa _ _ Fr h1 p1 d1 =>
    cases p1 with
    | @cons _ vb Fb _ _ _ h2 p2 d2 =>
      cases p2
      refine ⟨va, vb, rfl, ?_⟩
      obtain ⟨F2, rs2, sub2⟩ := r1.put li h1 (fun x hx => n1 x (by simp [hx]))
      obtain ⟨F3, rs3, sub3⟩ := rs2.put (by rw [List.length_set]; exact lj) h2 (fun x hx hx' => (sub2 x hx').elim (n1 x (by simp [hx])) fun z => d1 x z (by simp [hx]))
      refine k.nx Z' H' _ _ F3 s1 (e1.sub fun x hx => ?_) rs3 ((take_set hpj).trans (take_set hpi)) q
      rcases sub3 x hx with h | h
      · rcases sub2 x h with h | h
        · exact List.mem_append_left _ h
        · simp [h]
      · simp [h]
theorem vs_par3 {W : WX} {i j l : Nat} {x y z : Str} {a b c : Expr} {g : MA} {px py pz pt : Pos} {kt k2 pt2} (hc : X.calm = true) (hN : X.N.Nodup) (ha : VA X W [a, b, c] g) (hpi : np ≤ i := by decide) (hpj : np ≤ j := by decide) (hpl : np ≤ l := by decide) (hij : i ≠ j := by decide) (hil : i ≠ l := by decide) (hjl : j ≠ l := by decide)
    (hi : X.N[i]? = some x := by rfl) (hj : X.N[j]? = some y := by rfl) (hl : X.N[l]? = some z := by rfl)
    (hx : X.env.scope.names.lookup x = some .local := by rfl) (hy : X.env.scope.names.lookup y = some .local := by rfl) (hz : X.env.scope.names.lookup z = some .local := by rfl)
    (hw : swappedStores [.Tuple [.Name x px, .Name y py, .Name z pz] kt pt] (.Tuple [a, b, c] k2 pt2) X.env = pure (some [x, y, z]) := by rfl)
    (hs : swapsWithSole [.Tuple [.Name x px, .Name y py, .Name z pz] kt pt] (.Tuple [a, b, c] k2 pt2) pos.line X.env = pure false := by rfl) : VS X W np (.Assign [.Tuple [.Name x px, .Name y py, .Name z pz] kt pt] (.Tuple [a, b, c] k2 pt2) pos) (sPar3 i j l g) := by
  obtain ⟨t, pa, sn⟩ := ha.ex
  refine ⟨_, ps_par3 hc hN hi hj hl hij hil hjl hx hy hz pa hw hs, fun Z H σ Γ F M E hs rs m k => sn Z H σ Γ F _ M.xr _ hs rs m (fun Z' H' Γ' F' ts vs G s1 e1 r1 p1 n1 l1 q => ?_) k.xok⟩
  obtain ⟨ta, tb, tc, e, li, lj, ll, q⟩ := q
  subst e
  cases p1 with
  | @cons _ va Fa _ _ Fr h1 p1 d1 =>
    cases p1 with
    | @cons _ vb Fb _ _ _ h2 p2 d2 =>
      cases p2 with
      | @cons _ vc Fc _ _ _ h3 p3 d3 =>
        cases p3
        refine ⟨va, vb, vc, rfl, ?_⟩
        obtain ⟨F2, rs2, sub2⟩ := r1.put li h1 (fun x hx => n1 x (by simp [hx]))
        obtain ⟨F3, rs3, sub3⟩ := rs2.put (by rw [List.length_set]; exact lj) h2 (fun x hx hx' => (sub2 x hx').elim (n1 x (by simp [hx])) fun z => d1 x z (by simp [hx]))
        obtain ⟨F4, rs4, sub4⟩ := rs3.put (by rw [List.length_set, List.length_set]; exact ll) h3 (fun x hx hx' => (sub3 x hx').elim (fun hx' => (sub2 x hx').elim (n1 x (by simp [hx])) fun z => d1 x z (by simp [hx])) fun z => d2 x z (by simp [hx]))
        refine k.nx Z' H' _ _ F4 s1 (e1.sub fun x hx => ?_) rs4 (((take_set hpl).trans (take_set hpj)).trans (take_set hpi)) q
        rcases sub4 x hx with h | h
        · rcases sub3 x h with h | h
          · rcases sub2 x h with h | h
            · exact List.mem_append_left _ h
            · simp [h]
          · simp [h]
        · simp [h]
/-- name op= e, by values -/
def IpV (X : Cx) (op : Operator) (o : D → D → (T → Prop) → Prop) : Prop :=
  ∃ r : TIp, PIp X op r ∧ ∀ Z H d v d' v' R Q, Same Z H → Vw X.K Z H d v → Vw X.K Z H d' v' → o d d' R → PK X.K Z H R Q → r v v' H Q
theorem iv_add : IpV X .Add (oInt (fun _ _ => True) fun i j => i + j) := ⟨_, ip_add, fun Z H d v d' v' R Q hs w w' ⟨i, j, e1, e2, _, q⟩ k => by subst e1; subst e2; rw [w.intE, w'.intE]; exact ⟨i, j, rfl, rfl, k.frz hs (.int _) q⟩⟩
theorem iv_sub : IpV X .Sub (oInt (fun _ _ => True) fun i j => i - j) := ⟨_, ip_sub, fun Z H d v d' v' R Q hs w w' ⟨i, j, e1, e2, _, q⟩ k => by subst e1; subst e2; rw [w.intE, w'.intE]; exact ⟨i, j, rfl, rfl, k.frz hs (.int _) q⟩⟩
def sAug (i : Nat) (o : D → D → (T → Prop) → Prop) (m : ME) : MS := fun Γ M => slV Γ i (fun _ => True) ∧ vwM m Γ (fun e Γ' => slV Γ' i fun d => o d e fun t => i < Γ'.length ∧ M.nx (Γ'.set i (some t))) M.xr
theorem vs_aug {W : WX} {i : Nat} {x : Str} {e : Expr} {m : ME} {op : Operator} {o : D → D → (T → Prop) → Prop} {pos' : Pos} (hN : X.N.Nodup) (ho : IpV X op o) (h : VE X W e m) (hp : np ≤ i := by decide) (hi : X.N[i]? = some x := by rfl) (hx : Loc X.env.scope x := by first | exact Or.inl rfl | exact Or.inr rfl)
    (hf : X.fn x = true ∨ X.env.scope.names.lookup x = some .local := by first | exact .inl rfl | exact .inr rfl) : VS X W np (.AugAssign (.Name x pos') op e pos) (sAug i o m) := by
  obtain ⟨r, h1, h2⟩ := ho
  obtain ⟨t, pe, sn⟩ := h.ex
  refine ⟨_, ps_aug hN hi hx pe h1 hf, fun Z H σ Γ F M E hs rs m k => ?_⟩
  obtain ⟨v, _, ev, _, _⟩ := slV_at rs m.1
  refine ⟨v, ev, sn Z H σ Γ F _ M.xr _ hs rs m.2 (fun Z1 H1 Γ1 F1 t' v' G s1 e1 r1 p1 n1 q1 => ?_) k.xok⟩
  obtain ⟨d', g1, g2⟩ := T.vw_ex q1
  obtain ⟨v2, d, ev2, vw, q⟩ := slV_at r1 g2
  rw [ev] at ev2
  cases ev2
  have e1' := e1.sub fun _ h => List.mem_append_left _ h
  refine h2 Z1 H1 d v d' v' _ _ s1 vw (p1.view g1) q (fun Z2 H2 tt u G2 p2 hG rp qq => ?_)
  have r2 := p2.slots r1
  have nG : ∀ x ∈ G2, x ∉ F1 := fun x hx hx' => by
    obtain ⟨_, o, ho⟩ := r1.foot x hx'
    rw [hG x hx] at ho; cases ho
  obtain ⟨F3, rs3, sub3⟩ := r2.put qq.1 rp nG
  have ex := e1'.trans (p2.ext (F := F1) hG)
  exact k.nx Z2 H2 _ _ F3 p2.zh (ex.sub fun x hx => List.mem_append.mpr (sub3 x hx)) rs3 (take_set hp) qq.2
/-! ### while -/
def sWhile (c : MT) (b : MS) : MS := fun Γ M => ∃ I : Nat → Sl → Prop, (∃ n, I n Γ) ∧ ∀ n Γ, I n Γ → c Γ (fun t Γ' => if t = true then b Γ' { M with nx := fun Γ'' => ∃ n', n' < n ∧ I n' Γ'', ct := fun Γ'' => ∃ n', n' < n ∧ I n' Γ'', bk := M.nx } else M.nx Γ') M.xr
theorem vs_while {W : WX} {c : Expr} {body : List Stmt} {mc : MT} {mb : MS} (hp : PassesOwn (model X.prog X.w) X.A X.env X.xe) (hc : VT X W c mc) (hb : VSs X W np body mb) : VS X W np (.While c body [] pos) (sWhile mc mb) := by
  obtain ⟨t, pe, sn⟩ := hc.ex
  obtain ⟨tb, pb, sb⟩ := hb.ex
  refine ⟨_, ps_while hp pe pb, fun Z H σ Γ F M E hs rs m k => ?_⟩
  obtain ⟨I, ⟨n0, i0⟩, turn⟩ := m
  refine ⟨fun n σ' H' => ∃ Z' Γ' F', Same Z' H' ∧ Ext Z H F Z' H' F' ∧ Rsl X.K Z' H' Γ' σ' F' ∧ σ'.take np = σ.take np ∧ I n Γ', ⟨n0, Z, Γ, F, hs, .refl .., rs, rfl, i0⟩, ?_⟩
  rintro n σ1 H1 ⟨Z1, Γ1, F1, s1, e1, r1, p1, i1⟩
  have k1 := k.step e1 p1
  refine sn Z1 H1 σ1 Γ1 F1 _ M.xr _ s1 r1 (turn n Γ1 i1) (fun Z2 H2 Γ2 F2 b s2 e2 r2 q2 => ?_) k1.xok
  have k2 := k1.step e2 rfl
  cases b with
  | false => exact k2.nx Z2 H2 σ1 Γ2 F2 s2 (.refl ..) r2 rfl q2
  | true =>
    refine ⟨fun σ' H' => ∃ m', m' < n ∧ ∃ Z' Γ' F', Same Z' H' ∧ Ext Z H F Z' H' F' ∧ Rsl X.K Z' H' Γ' σ' F' ∧ σ'.take np = σ.take np ∧ I m' Γ', fun σ' H' h => h, ?_⟩
    refine sb Z2 H2 σ1 Γ2 F2 _ _ s2 r2 q2 ⟨?_, ?_, ?_, k2.rt, k2.xr⟩
    · rintro Z' H' σ' Γ' F' s' e' r' p' ⟨n', hn, i'⟩
      exact ⟨n', hn, Z', Γ', F', s', (e1.trans e2).trans e', r', p'.trans p1, i'⟩
    · exact k2.nx
    · rintro Z' H' σ' Γ' F' s' e' r' p' ⟨n', hn, i'⟩
      exact ⟨n', hn, Z', Γ', F', s', (e1.trans e2).trans e', r', p'.trans p1, i'⟩
end

/-! ### what is walked -/
structure VIt (K : PySem.W.Frag) (J : It) (Z : Hp) (its : List D) : Prop where
  go : ∀ Z' H', Same Z Z' → Same Z' H' → ∀ i, i < its.length → J.go i H'
  stop : ∀ Z' H', Same Z Z' → Same Z' H' → J.stop its.length H'
  yld : ∀ Z' H', Same Z Z' → Same Z' H' → ∀ i d x H'', its[i]? = some d → J.yld i H' x H'' → ∃ Z'', PStep Z' H' Z'' H'' ∧ Rz K Z'' d x
theorem VIt.mono {K : PySem.W.Frag} {J : It} {Z Z1 : Hp} {its : List D} (h : VIt K J Z its) (z : Same Z Z1) : VIt K J Z1 its :=
  ⟨fun Z' H' a b => h.go Z' H' (z.trans a) b, fun Z' H' a b => h.stop Z' H' (z.trans a) b, fun Z' H' a b => h.yld Z' H' (z.trans a) b⟩
theorem vit_list {K : PySem.W.Frag} {Z : Hp} {a : Addr} {ds : List D} {vs : List V} (h : SqL K Z a vs) (r : Rzs K Z ds vs) : VIt K (Itl K a) Z ds where
  go := fun Z' H' hz hs i hi => by
    obtain ⟨v, hv, _⟩ := r.get (List.getElem?_eq_getElem hi)
    exact ⟨vs, v, SqL.mono (rd_same (hz.trans hs)) h, hv⟩
  stop := fun Z' H' hz hs => ⟨vs, SqL.mono (rd_same (hz.trans hs)) h, by rw [r.length]; exact Nat.le_refl _⟩
  yld := fun Z' H' hz hs i d x H'' hd ⟨e, y⟩ => by
    subst e
    obtain ⟨v, hv, rv⟩ := r.get hd
    have := y vs (SqL.mono (rd_same (hz.trans hs)) h)
    rw [hv] at this
    cases this
    exact ⟨Z', .refl hs, rv.mono hz⟩
theorem vit_tup {K : PySem.W.Frag} {Z : Hp} {a : Addr} {ds : List D} {vs : List V} (h : SqT K Z a vs) (r : Rzs K Z ds vs) : VIt K (Itt K a) Z ds where
  go := fun Z' H' hz hs i hi => by
    obtain ⟨v, hv, _⟩ := r.get (List.getElem?_eq_getElem hi)
    exact ⟨vs, v, SqT.mono (rd_same (hz.trans hs)) h, hv⟩
  stop := fun Z' H' hz hs => ⟨vs, SqT.mono (rd_same (hz.trans hs)) h, by rw [r.length]; exact Nat.le_refl _⟩
  yld := fun Z' H' hz hs i d x H'' hd ⟨e, y⟩ => by
    subst e
    obtain ⟨v, hv, rv⟩ := r.get hd
    have := y vs (SqT.mono (rd_same (hz.trans hs)) h)
    rw [hv] at this
    cases this
    exact ⟨Z', .refl hs, rv.mono hz⟩
def rngD (lo : Int) (n : Nat) : List D := (List.range n).map fun i => D.int (lo + (i : Nat))
theorem vit_rng {K : PySem.W.Frag} {Z : Hp} (lo : Int) (n : Nat) : VIt K (Itr lo n) Z (rngD lo n) where
  go := fun Z' H' hz hs i hi => by simpa [rngD, Itr] using hi
  stop := fun Z' H' hz hs => by simp [rngD, Itr]
  yld := fun Z' H' hz hs i d x H'' hd ⟨e, y⟩ => by
    subst e; subst y
    have : d = .int (lo + (i : Nat)) := by
      unfold rngD at hd
      rw [List.getElem?_map] at hd
      cases q : (List.range n)[i]? with
      | none => rw [q] at hd; cases hd
      | some j =>
        rw [q] at hd
        have := List.getElem?_eq_some_iff.mp q
        obtain ⟨hj, e⟩ := this
        rw [List.getElem_range] at e
        subst e
        simpa using hd.symm
    subst this
    exact ⟨Z', .refl hs, .int _⟩
theorem pstep_tup {K : PySem.W.Frag} {Z H : Hp} (hs : Same Z H) {p : Addr} (hp : H p = none) {ds : List D} {vs : List V} (r : Rzs K Z ds vs) : ∃ Z'', PStep Z H Z'' (upd H p (.tup vs)) ∧ Rz K Z'' (.tup ds) (.ref p) :=
  ⟨_, .newz hs hp, .tup (.inl (.inl upd_same)) (r.mono (same_upd (hs.free hp)))⟩
def enumD : Nat → List D → List D
  | _, [] => []
  | i, d :: ds => .tup [.int (i : Nat), d] :: enumD (i + 1) ds
theorem enumD_length : ∀ (i : Nat) (ds : List D), (enumD i ds).length = ds.length
  | _, [] => rfl
  | i, d :: ds => by simp [enumD, enumD_length (i + 1) ds]
theorem enumD_get : ∀ (k : Nat) (ds : List D) (i : Nat) (e : D), (enumD k ds)[i]? = some e → ∃ d, ds[i]? = some d ∧ e = .tup [.int ((k + i : Nat)), d]
  | _, [], i, e, h => by simp [enumD] at h
  | k, d :: ds, 0, e, h => by simp [enumD] at h; exact ⟨d, rfl, by simpa using h.symm⟩
  | k, d :: ds, i + 1, e, h => by
    have h' : (enumD (k + 1) ds)[i]? = some e := by simpa [enumD] using h
    obtain ⟨d', h1, h2⟩ := enumD_get (k + 1) ds i e h'
    refine ⟨d', by simpa using h1, ?_⟩
    rw [h2]
    have : k + 1 + i = k + (i + 1) := by omega
    rw [this]
theorem vit_enum {K : PySem.W.Frag} {Z : Hp} {a : Addr} {ds : List D} {vs : List V} (h : SqL K Z a vs) (r : Rzs K Z ds vs) : VIt K (Ite K a) Z (enumD 0 ds) where
  go := fun Z' H' hz hs i hi => by
    rw [enumD_length] at hi
    obtain ⟨v, hv, _⟩ := r.get (List.getElem?_eq_getElem hi)
    exact ⟨vs, v, SqL.mono (rd_same (hz.trans hs)) h, hv⟩
  stop := fun Z' H' hz hs => ⟨vs, SqL.mono (rd_same (hz.trans hs)) h, by rw [enumD_length, r.length]; exact Nat.le_refl _⟩
  yld := fun Z' H' hz hs i e x H'' hd ⟨p, y, e1, hp, e2, hy⟩ => by
    subst e1; subst e2
    obtain ⟨d, hd1, e3⟩ := enumD_get 0 ds i e hd
    subst e3
    obtain ⟨v, hv, rv⟩ := r.get hd1
    have := hy vs (SqL.mono (rd_same (hz.trans hs)) h)
    rw [hv] at this
    cases this
    rw [Nat.zero_add]
    exact pstep_tup hs hp (.cons (.int _) (.cons (rv.mono hz) .nil))
def zipD : List D → List D → List D
  | d :: ds, e :: es => .tup [d, e] :: zipD ds es
  | _, _ => []
theorem zipD_length : ∀ (ds es : List D), (zipD ds es).length = min ds.length es.length
  | [], _ => by simp [zipD]
  | d :: ds, [] => by simp [zipD]
  | d :: ds, e :: es => by simp only [zipD, List.length_cons, zipD_length ds es]; omega
theorem zipD_get : ∀ (ds es : List D) (i : Nat) (x : D), (zipD ds es)[i]? = some x → ∃ d e, ds[i]? = some d ∧ es[i]? = some e ∧ x = .tup [d, e]
  | [], _, i, x, h => by simp [zipD] at h
  | d :: ds, [], i, x, h => by simp [zipD] at h
  | d :: ds, e :: es, 0, x, h => by simp [zipD] at h; exact ⟨d, e, rfl, rfl, h.symm⟩
  | d :: ds, e :: es, i + 1, x, h => by
    obtain ⟨a, b, h1, h2, h3⟩ := zipD_get ds es i x (by simpa [zipD] using h)
    exact ⟨a, b, by simpa using h1, by simpa using h2, h3⟩
theorem vit_zip {K : PySem.W.Frag} {Z : Hp} {a b : Addr} {ds es : List D} {vs ws : List V} (h : SqL K Z a vs) (r : Rzs K Z ds vs) (h' : SqL K Z b ws) (r' : Rzs K Z es ws) : VIt K (Itz K a b) Z (zipD ds es) where
  go := fun Z' H' hz hs i hi => by
    rw [zipD_length] at hi
    have i1 : i < ds.length := by omega
    have i2 : i < es.length := by omega
    obtain ⟨v, hv, _⟩ := r.get (List.getElem?_eq_getElem i1)
    obtain ⟨w, hw, _⟩ := r'.get (List.getElem?_eq_getElem i2)
    exact ⟨vs, ws, v, w, SqL.mono (rd_same (hz.trans hs)) h, SqL.mono (rd_same (hz.trans hs)) h', hv, hw⟩
  stop := fun Z' H' hz hs => ⟨vs, ws, SqL.mono (rd_same (hz.trans hs)) h, SqL.mono (rd_same (hz.trans hs)) h', by rw [zipD_length, r.length, r'.length]; omega⟩
  yld := fun Z' H' hz hs i e x H'' hd ⟨p, y, y', e1, hp, e2, hy, hy'⟩ => by
    subst e1; subst e2
    obtain ⟨d, d', hd1, hd2, e3⟩ := zipD_get ds es i e hd
    subst e3
    obtain ⟨v, hv, rv⟩ := r.get hd1
    obtain ⟨w, hw, rw'⟩ := r'.get hd2
    have q := hy vs (SqL.mono (rd_same (hz.trans hs)) h)
    rw [hv] at q
    cases q
    have q := hy' ws (SqL.mono (rd_same (hz.trans hs)) h')
    rw [hw] at q
    cases q
    exact pstep_tup hs hp (.cons (rv.mono hz) (.cons (rw'.mono hz) .nil))
theorem vit_zipT {K : PySem.W.Frag} {Z : Hp} {a b : Addr} {ds es : List D} {vs ws : List V} (h : SqT K Z a vs) (r : Rzs K Z ds vs) (h' : SqT K Z b ws) (r' : Rzs K Z es ws) : VIt K (RZ.ItzT K a b) Z (zipD ds es) where
  go := fun Z' H' hz hs i hi => by
    rw [zipD_length] at hi
    have i1 : i < ds.length := by omega
    have i2 : i < es.length := by omega
    obtain ⟨v, hv, _⟩ := r.get (List.getElem?_eq_getElem i1)
    obtain ⟨w, hw, _⟩ := r'.get (List.getElem?_eq_getElem i2)
    exact ⟨vs, ws, v, w, SqT.mono (rd_same (hz.trans hs)) h, SqT.mono (rd_same (hz.trans hs)) h', hv, hw⟩
  stop := fun Z' H' hz hs => ⟨vs, ws, SqT.mono (rd_same (hz.trans hs)) h, SqT.mono (rd_same (hz.trans hs)) h', by rw [zipD_length, r.length, r'.length]; omega⟩
  yld := fun Z' H' hz hs i e x H'' hd ⟨p, y, y', e1, hp, e2, hy, hy'⟩ => by
    subst e1; subst e2
    obtain ⟨d, d', hd1, hd2, e3⟩ := zipD_get ds es i e hd
    subst e3
    obtain ⟨v, hv, rv⟩ := r.get hd1
    obtain ⟨w, hw, rw'⟩ := r'.get hd2
    have q := hy vs (SqT.mono (rd_same (hz.trans hs)) h)
    rw [hv] at q
    cases q
    have q := hy' ws (SqT.mono (rd_same (hz.trans hs)) h')
    rw [hw] at q
    cases q
    exact pstep_tup hs hp (.cons (rv.mono hz) (.cons (rw'.mono hz) .nil))
def chD (c : Nat) : D := .str ⟨#[c]⟩
def strD (s : Str) : List D := s.cps.toList.map chD
theorem vit_str {K : PySem.W.Frag} {Z : Hp} (s : Str) (h : PyData.strOk s = true) : VIt K (Its s) Z (strD s) where
  go := fun Z' H' hz hs i hi => by simpa [strD, Its] using hi
  stop := fun Z' H' hz hs => by simp [strD, Its]
  yld := fun Z' H' hz hs i d x H'' hd ⟨e, c, hc, y⟩ => by
    subst e; subst y
    unfold strD at hd
    rw [List.getElem?_map] at hd
    have hc' : s.cps.toList[i]? = some c := by simpa using hc
    rw [hc'] at hd
    cases hd
    refine ⟨Z', .refl hs, .str _ ?_⟩
    exact strOk_iff.mpr fun b hb => by
      have e : b = c := by simpa using hb
      rw [e]
      exact strOk_iff.mp h c (List.mem_of_getElem? hc')

abbrev MI := Sl → (List D → Sl → Prop) → XRl → Prop
def SndI (K : PySem.W.Frag) (W : WX) (wi : TI) (m : MI) : Prop :=
  ∀ Z H σ Γ F R XR Q, Same Z H → Rsl K Z H Γ σ F → m Γ R XR →
    (∀ Z' H' Γ' F' J its, Same Z' H' → Ext Z H F Z' H' F' → Rsl K Z' H' Γ' σ F' → VIt K J Z' its → R its Γ' → Q J H') → XOk K Z H F σ XR W → wi σ H Q
structure VI (X : Cx) (W : WX) (tg iter : Expr) (m : MI) : Prop where
  ex : ∃ wi, PI X tg iter wi ∧ SndI X.K W wi m
section
variable {X : Cx} {W : WX} {tg : Expr}
def D.seqL (d : D) (k : List D → Prop) : Prop := match d with
  | .lst ds => k ds
  | .scr ns => k (ns.map D.int)
  | _ => False
def D.seqT (d : D) (k : List D → Prop) : Prop := match d with
  | .tup ds => k ds
  | _ => False
theorem seqL_at {K : PySem.W.Frag} {Z : Hp} {d : D} {v : V} (r : Rz K Z d v) {k : List D → Prop} (h : d.seqL k) : ∃ a vs ds, v = .ref a ∧ SqL K Z a vs ∧ Rzs K Z ds vs ∧ k ds := by
  cases r with
  | lst h1 h2 => exact ⟨_, _, _, rfl, .inl (.inl h1), h2, h⟩
  | scr h1 => exact ⟨_, _, _, rfl, h1, .ofInts _, h⟩
  | _ => exact h.elim
theorem seqT_at {K : PySem.W.Frag} {Z : Hp} {d : D} {v : V} (r : Rz K Z d v) {k : List D → Prop} (h : d.seqT k) : ∃ a vs ds, v = .ref a ∧ SqT K Z a vs ∧ Rzs K Z ds vs ∧ k ds := by
  cases r with
  | tup h1 h2 => exact ⟨_, _, _, rfl, h1, h2, h⟩
  | _ => exact h.elim
/-- an answer frozen at once -/
theorem snd_frz {K : PySem.W.Frag} {t : TE} {m : ME} (sn : Snd K W t m) {Z H : Hp} {σ : St} {Γ : Sl} {F : List Addr} {R : D → Sl → Prop} {XR : XRl} {Q : VK} (hs : Same Z H) (rs : Rsl K Z H Γ σ F) (h : m Γ (fun t Γ' => R t.toD Γ') XR)
    (k : ∀ Z' H' Γ' F' d v, Same Z' H' → Ext Z H F Z' H' F' → Rsl K Z' H' Γ' σ F' → Rz K Z' d v → R d Γ' → Q v H') (x : XOk K Z H F σ XR W) : t σ H Q :=
  sn Z H σ Γ F _ XR _ hs rs h (fun Z' H' Γ' F' r v G s1 e1 r1 p1 n1 q => by
    have h0 : ∀ x ∈ G, Z' x = none := fun x hx => (p1.foot x hx).1
    exact k _ H' Γ' F' r.toD v (frzH_below s1) (ext_frz e1 h0) (frz_slots r1 h0 n1) (p1.freeze (frzH_same h0) frzH_at) q) x
theorem sndA_frz {K : PySem.W.Frag} {n : Nat} {t : TA} {m : MA} (sn : SndA K n W t m) {Z H : Hp} {σ : St} {Γ : Sl} {F : List Addr} {R : List D → Sl → Prop} {XR : XRl} {Q : List V → Hp → Prop} (hs : Same Z H) (rs : Rsl K Z H Γ σ F) (h : m Γ (fun t Γ' => R (t.map T.toD) Γ') XR)
    (k : ∀ Z' H' Γ' F' d v, Same Z' H' → Ext Z H F Z' H' F' → Rsl K Z' H' Γ' σ F' → Rzs K Z' d v → R d Γ' → Q v H') (x : XOk K Z H F σ XR W) : t σ H Q :=
  sn Z H σ Γ F _ XR _ hs rs h (fun Z' H' Γ' F' r v G s1 e1 r1 p1 n1 l1 q => by
    obtain ⟨f1, f2, f3, f4⟩ := frz_args s1 r1 p1 n1
    exact k _ H' Γ' F' _ v f2 (ext_frz e1 fun x hx => (p1.foot x hx).1) f3 f4 q) x
def iL (m : ME) : MI := fun Γ R XR => m Γ (fun t Γ' => t.toD.seqL fun ds => R ds Γ') XR
def iT (m : ME) : MI := fun Γ R XR => m Γ (fun t Γ' => t.toD.seqT fun ds => R ds Γ') XR
def iS (m : ME) : MI := fun Γ R XR => m Γ (fun t Γ' => ∃ s, t = .frz (.str s) ∧ R (strD s) Γ') XR
theorem vi_list {e : Expr} {m : ME} (h : VE X W e m) : VI X W tg e (iL m) := by
  obtain ⟨t, pe, sn⟩ := h.ex
  refine ⟨_, pi_list pe, fun Z H σ Γ F R XR Q hs rs m k x => ?_⟩
  refine snd_frz sn (R := fun d Γ' => d.seqL fun ds => R ds Γ') hs rs m (fun Z' H' Γ' F' d v s1 e1 r1 rz q => ?_) x
  obtain ⟨a, vs, ds, e, h1, h2, q⟩ := seqL_at rz q
  exact ⟨a, e, ⟨vs, SqL.mono (rd_same s1) h1⟩, k Z' H' Γ' F' _ ds s1 e1 r1 (vit_list h1 h2) q⟩
theorem vi_tup {e : Expr} {m : ME} (h : VE X W e m) : VI X W tg e (iT m) := by
  obtain ⟨t, pe, sn⟩ := h.ex
  refine ⟨_, pi_tup pe, fun Z H σ Γ F R XR Q hs rs m k x => ?_⟩
  refine snd_frz sn (R := fun d Γ' => d.seqT fun ds => R ds Γ') hs rs m (fun Z' H' Γ' F' d v s1 e1 r1 rz q => ?_) x
  obtain ⟨a, vs, ds, e, h1, h2, q⟩ := seqT_at rz q
  exact ⟨a, e, ⟨vs, SqT.mono (rd_same s1) h1⟩, k Z' H' Γ' F' _ ds s1 e1 r1 (vit_tup h1 h2) q⟩
theorem vi_str {e : Expr} {m : ME} (h : VE X W e m) : VI X W tg e (iS m) := by
  obtain ⟨t, pe, sn⟩ := h.ex
  refine ⟨_, pi_str pe, fun Z H σ Γ F R XR Q hs rs m k x => ?_⟩
  refine sn Z H σ Γ F _ XR _ hs rs m (fun Z' H' Γ' F' r v G s1 e1 r1 p1 n1 ⟨s, e, q⟩ => ?_) x
  subst e
  cases p1 with
  | frz rz =>
    cases rz with
    | str _ ok => exact ⟨s, rfl, k Z' H' Γ' F' _ _ s1 (e1.sub fun _ h => List.mem_append_left _ h) r1 (vit_str s ok) q⟩
def iR1 (g : MA) : MI := fun Γ R XR => g Γ (fun ts Γ' => ∃ j : Int, ts.map T.toD = [.int j] ∧ -(2 ^ 62) ≤ j ∧ j < 2 ^ 62 ∧ R (rngD 0 j.toNat) Γ') XR
def iR2 (g : MA) : MI := fun Γ R XR => g Γ (fun ts Γ' => ∃ i j : Int, ts.map T.toD = [.int i, .int j] ∧ (-(2 ^ 62) ≤ i ∧ i < 2 ^ 62 ∧ -(2 ^ 62) ≤ j ∧ j < 2 ^ 62) ∧ R (rngD i (j - i).toNat) Γ') XR
theorem vi_range1 {a : Expr} {g : MA} {p pos : Pos} (hg : Gl X "range") (hm : X.mg "range" = none) (ha : VA X W [a] g) (hs : starEach [a] X.env = [(false, eval a X.env)] := by rfl) : VI X W tg (.Call (.Name "range" p) [a] [] pos) (iR1 g) := by
  obtain ⟨t, pe, sn⟩ := ha.ex
  refine ⟨_, pi_range1 hg hm pe hs, fun Z H σ Γ F R XR Q hs rs m k x => ?_⟩
  refine sndA_frz sn (R := fun ds Γ' => ∃ j : Int, ds = [.int j] ∧ -(2 ^ 62) ≤ j ∧ j < 2 ^ 62 ∧ R (rngD 0 j.toNat) Γ') hs rs ?_ (fun Z' H' Γ' F' d v s1 e1 r1 rz q => ?_) x
  · exact m
  · obtain ⟨j, e, h1, h2, q⟩ := q
    subst e
    cases rz with
    | cons r0 rr =>
      cases rr
      cases r0
      exact ⟨j, rfl, h1, h2, k Z' H' Γ' F' _ _ s1 e1 r1 (vit_rng _ _) q⟩
theorem vi_range2 {a b : Expr} {g : MA} {p pos : Pos} (hg : Gl X "range") (hm : X.mg "range" = none) (ha : VA X W [a, b] g) (hs : starEach [a, b] X.env = [(false, eval a X.env), (false, eval b X.env)] := by rfl) (hs2 : starEach [b] X.env = [(false, eval b X.env)] := by rfl) : VI X W tg (.Call (.Name "range" p) [a, b] [] pos) (iR2 g) := by
  obtain ⟨t, pe, sn⟩ := ha.ex
  refine ⟨_, pi_range2 hg hm pe hs hs2, fun Z H σ Γ F R XR Q hs rs m k x => ?_⟩
  refine sndA_frz sn (R := fun ds Γ' => ∃ i j : Int, ds = [.int i, .int j] ∧ (-(2 ^ 62) ≤ i ∧ i < 2 ^ 62 ∧ -(2 ^ 62) ≤ j ∧ j < 2 ^ 62) ∧ R (rngD i (j - i).toNat) Γ') hs rs ?_ (fun Z' H' Γ' F' d v s1 e1 r1 rz q => ?_) x
  · exact m
  · obtain ⟨i, j, e, h, q⟩ := q
    subst e
    cases rz with
    | cons r0 rr =>
      cases rr with
      | cons r2 rr =>
        cases rr
        cases r0
        cases r2
        exact ⟨i, j, rfl, h, k Z' H' Γ' F' _ _ s1 e1 r1 (vit_rng _ _) q⟩
def iEn (g : MA) : MI := fun Γ R XR => g Γ (fun ts Γ' => ∃ d, ts.map T.toD = [d] ∧ d.seqL fun ds => R (enumD 0 ds) Γ') XR
theorem vi_enum {e : Expr} {g : MA} {p pos tpos : Pos} {elts : List Expr} {kk : Nat} (hg : Gl X "enumerate") (hm : X.mg "enumerate" = none) (ha : VA X W [e] g) (hs : starEach [e] X.env = [(false, eval e X.env)] := by rfl) : VI X W (.Tuple elts kk tpos) (.Call (.Name "enumerate" p) [e] [] pos) (iEn g) := by
  obtain ⟨t, pe, sn⟩ := ha.ex
  refine ⟨_, pi_enum hg hm pe hs, fun Z H σ Γ F R XR Q hs rs m k x => ?_⟩
  refine sndA_frz sn (R := fun ds Γ' => ∃ d, ds = [d] ∧ d.seqL fun ds => R (enumD 0 ds) Γ') hs rs ?_ (fun Z' H' Γ' F' d v s1 e1 r1 rz q => ?_) x
  · exact m
  · obtain ⟨d, e, q⟩ := q
    subst e
    cases rz with
    | cons r0 rr =>
      cases rr
      obtain ⟨a, vs, ds, e, h1, h2, q⟩ := seqL_at r0 q
      subst e
      exact ⟨a, vs, rfl, SqL.mono (rd_same s1) h1, k Z' H' Γ' F' _ _ s1 e1 r1 (vit_enum h1 h2) q⟩
def iZp (g : MA) : MI := fun Γ R XR => g Γ (fun ts Γ' => ∃ d d', ts.map T.toD = [d, d'] ∧ ((d.seqL fun ds => d'.seqL fun es => R (zipD ds es) Γ') ∨ (d.seqT fun ds => d'.seqT fun es => R (zipD ds es) Γ'))) XR
theorem vi_zip {e e2 : Expr} {g : MA} {p pos tpos : Pos} {elts : List Expr} {kk : Nat} (hg : Gl X "zip") (hm : X.mg "zip" = none) (ha : VA X W [e, e2] g)
    (hs : starEach [e, e2] X.env = (false, eval e X.env) :: starEach [e2] X.env := by rfl) (hpl : (backTo pos (starEach [e2] X.env)).any (·.1) = false := by rfl) : VI X W (.Tuple elts kk tpos) (.Call (.Name "zip" p) [e, e2] [] pos) (iZp g) := by
  obtain ⟨t, pe, sn⟩ := ha.ex
  refine ⟨_, RZ.pi_zipA hg hm pe hs hpl, fun Z H σ Γ F R XR Q hs rs m k x => ?_⟩
  refine sndA_frz sn (R := fun ts Γ' => ∃ d d', ts = [d, d'] ∧ ((d.seqL fun ds => d'.seqL fun es => R (zipD ds es) Γ') ∨ (d.seqT fun ds => d'.seqT fun es => R (zipD ds es) Γ'))) hs rs ?_ (fun Z' H' Γ' F' d v s1 e1 r1 rz q => ?_) x
  · exact m
  · obtain ⟨d, d', e, q⟩ := q
    subst e
    cases rz with
    | cons r0 rr =>
      cases rr with
      | cons r2 rr =>
        cases rr
        rcases q with q | q
        · obtain ⟨a, vs, ds, e, h1, h2, q⟩ := seqL_at r0 q
          obtain ⟨b, ws, es, e', h3, h4, q⟩ := seqL_at r2 q
          subst e; subst e'
          exact ⟨a, b, vs, ws, rfl, .inl ⟨SqL.mono (rd_same s1) h1, SqL.mono (rd_same s1) h3, k Z' H' Γ' F' _ _ s1 e1 r1 (vit_zip h1 h2 h3 h4) q⟩⟩
        · obtain ⟨a, vs, ds, e, h1, h2, q⟩ := seqT_at r0 q
          obtain ⟨b, ws, es, e', h3, h4, q⟩ := seqT_at r2 q
          subst e; subst e'
          exact ⟨a, b, vs, ws, rfl, .inr ⟨SqT.mono (rd_same s1) h1, SqT.mono (rd_same s1) h3, k Z' H' Γ' F' _ _ s1 e1 r1 (vit_zipT h1 h2 h3 h4) q⟩⟩

/-! ### for -/
def forL (g : MG1) (b : MS) (M : VEnds) : List D → Sl → Prop
  | [], Γ => M.nx Γ
  | d :: ds, Γ => g d Γ fun Γ' => b Γ' { M with nx := forL g b M ds, ct := forL g b M ds, bk := M.nx }
def sFor (mi : MI) (g : MG1) (b : MS) : MS := fun Γ M => mi Γ (fun ds Γ' => forL g b M ds Γ') M.xr
theorem vs_for {np : Nat} {iter : Expr} {body : List Stmt} {mi : MI} {g : MG1} {mb : MS} {pos : Pos} (hp : PassesOwn (model X.prog X.w) X.A X.env X.xe) (hc : X.calm = true) (hi : VI X W tg iter mi) (hg : VTg X np tg g) (hb : VSs X W np body mb)
    (hf : ∀ x, foldedSetIterable iter X.env x = pure x := by intro _; rfl) : VS X W np (.For tg iter body [] pos) (sFor mi g mb) := by
  obtain ⟨wi, pi, si⟩ := hi.ex
  obtain ⟨tg', pg, sg⟩ := hg.ex
  obtain ⟨tb, pb, sb⟩ := hb.ex
  refine ⟨_, ps_for hp hc pi pg pb hf, fun Z H σ Γ F M E hs rs m k => ?_⟩
  refine si Z H σ Γ F _ M.xr _ hs rs m (fun Z0 H0 Γ0 F0 J its s0 e0 r0 vit q0 => ?_) k.xok
  refine ⟨fun i n σ' H' => ∃ Z' Γ' F', Same Z0 Z' ∧ Same Z' H' ∧ Ext Z H F Z' H' F' ∧ Rsl X.K Z' H' Γ' σ' F' ∧ σ'.take np = σ.take np ∧ i ≤ its.length ∧ n = its.length - i ∧ forL g mb M (its.drop i) Γ', ⟨its.length, Z0, Γ0, F0, .refl _, s0, e0, r0, rfl, Nat.zero_le _, by simp, by simpa using q0⟩, ?_⟩
  rintro i n σ1 H1 ⟨Z1, Γ1, F1, z1, s1, e1, r1, p1, hi, hn, q1⟩
  have k1 := k.step e1 p1
  by_cases hlt : i < its.length
  · have ed : its.drop i = its[i] :: its.drop (i + 1) := List.drop_eq_getElem_cons hlt
    rw [ed] at q1
    refine .inr ⟨vit.go Z1 H1 z1 s1 i hlt, fun σ' H' => ∃ Z' Γ' F', Same Z0 Z' ∧ Same Z' H' ∧ Ext Z H F Z' H' F' ∧ Rsl X.K Z' H' Γ' σ' F' ∧ σ'.take np = σ.take np ∧ forL g mb M (its.drop (i + 1)) Γ', ?_, ?_⟩
    · rintro σ' H' ⟨Z', Γ', F', z', s', e', r', p', q'⟩
      exact ⟨its.length - (i + 1), by omega, Z', Γ', F', z', s', e', r', p', hlt, rfl, q'⟩
    · intro x H2 y
      obtain ⟨Z2, st, rz⟩ := vit.yld Z1 H1 z1 s1 i _ x H2 (List.getElem?_eq_getElem hlt) y
      have e2 : Ext Z1 H1 F1 Z2 H2 F1 := by simpa using st.ext (F := F1) (G := []) (fun x hx => absurd hx (by simp))
      have q1' : g its[i] Γ1 fun Γ' => mb Γ' { M with nx := forL g mb M (its.drop (i + 1)), ct := forL g mb M (its.drop (i + 1)), bk := M.nx } := q1
      refine sg Z2 H2 σ1 Γ1 F1 _ x _ _ st.zh (st.slots r1) rz q1' fun Z3 H3 σ3 Γ3 F3 s3 e3 r3 p3 q3 => ?_
      have k3 := k1.step (e2.trans e3) p3
      have ex : Ext Z H F Z3 H3 F3 := e1.trans (e2.trans e3)
      refine sb Z3 H3 σ3 Γ3 F3 _ _ s3 r3 q3 ⟨?_, k3.nx, ?_, k3.rt, k3.xr⟩
      · intro Z' H' σ' Γ' F' s' e' r' p' q'
        exact ⟨Z', Γ', F', z1.trans (st.z.trans (e3.z.trans e'.z)), s', ex.trans e', r', (p'.trans p3).trans p1, q'⟩
      · intro Z' H' σ' Γ' F' s' e' r' p' q'
        exact ⟨Z', Γ', F', z1.trans (st.z.trans (e3.z.trans e'.z)), s', ex.trans e', r', (p'.trans p3).trans p1, q'⟩
  · have ei : i = its.length := by omega
    subst ei
    rw [List.drop_length] at q1
    exact .inl ⟨vit.stop Z1 H1 z1 s1, k1.nx Z1 H1 σ1 Γ1 F1 s1 (.refl ..) r1 rfl q1⟩
end
end VL
set_option Elab.async false
set_option linter.all false
set_option autoImplicit false
set_option maxRecDepth 100000
set_option maxHeartbeats 2000000
/-! VL11: list comprehensions. -/
namespace VL
open PySem PySem.Spec L2
open PyProof.Rows hiding St

/-! ### one reading for all contexts -/
def canE (K : PySem.W.Frag) (W : WX) (m : ME) : TE := fun σ H Q => ∃ Z Γ F R XR, Same Z H ∧ Rsl K Z H Γ σ F ∧ m Γ R XR ∧ KOk K Z H F σ R Q ∧ XOk K Z H F σ XR W
def canT (K : PySem.W.Frag) (W : WX) (m : MT) : TT := fun σ H Q => ∃ Z Γ F R XR, Same Z H ∧ Rsl K Z H Γ σ F ∧ m Γ R XR ∧ KOkT K Z H F σ R Q ∧ XOk K Z H F σ XR W
theorem VE.can {X : Cx} {W : WX} {e : Expr} {m : ME} (h : VE X W e m) : PE X e (canE X.K W m) := by
  obtain ⟨t, pe, sn⟩ := h.ex
  exact ⟨fun pins s σ H Q I ⟨Z, Γ, F, R, XR, hs, rs, hm, k, x⟩ => pe.run pins s σ H Q I (sn Z H σ Γ F R XR Q hs rs hm k x)⟩
theorem canE_snd {K : PySem.W.Frag} {W : WX} {m : ME} : Snd K W (canE K W m) m := fun Z H σ Γ F R XR Q hs rs hm k x => ⟨Z, Γ, F, R, XR, hs, rs, hm, k, x⟩
theorem VT.can {X : Cx} {W : WX} {e : Expr} {m : MT} (h : VT X W e m) : PT X e (canT X.K W m) := by
  obtain ⟨t, pe, sn⟩ := h.ex
  exact ⟨fun pins s σ H Q I ⟨Z, Γ, F, R, XR, hs, rs, hm, k, x⟩ => pe.run pins s σ H Q I (sn Z H σ Γ F R XR Q hs rs hm k x)⟩
theorem canT_snd {K : PySem.W.Frag} {W : WX} {m : MT} : SndT K W (canT K W m) m := fun Z H σ Γ F R XR Q hs rs hm k x => ⟨Z, Γ, F, R, XR, hs, rs, hm, k, x⟩
abbrev noW : WX := fun _ _ _ _ => False
abbrev noX : XRl := fun _ _ _ => False
structure VTs (X : Cx) (ifs : List Expr) (m : MT) : Prop where
  run : PTs X ifs (canT X.K noW m)
def mYes : MT := fun Γ R _ => R true Γ
theorem vts_nil {X : Cx} : VTs X [] mYes := ⟨⟨fun pins s σ H Q I ⟨Z, Γ, F, R, XR, hs, rs, hm, k, x⟩ => pts_nil.run pins s σ H Q I (k Z H Γ F true hs (.refl ..) rs hm)⟩⟩
theorem vts_one {X : Cx} {c : Expr} {m : MT} (h : VT X noW c m) : VTs X [c] m := ⟨pts_one h.can⟩
/-! ### targets of a block -/
def SndTc (K : PySem.W.Frag) (vs : List Nat) (t : TG) (g : MG1) : Prop :=
  ∀ Z H σ Γ F d v (R : Sl → Prop) (Q : St → Hp → Prop), Same Z H → Rsl K Z H Γ σ F → Rz K Z d v → g d Γ R →
    (∀ σ' Γ' F', Rsl K Z H Γ' σ' F' → (∀ x ∈ F', x ∈ F) → wipe σ' vs = wipe σ vs → R Γ' → Q σ' H) → t v σ H Q
def SndTcs (K : PySem.W.Frag) (vs : List Nat) (t : TGs) (g : List D → Sl → (Sl → Prop) → Prop) : Prop :=
  ∀ Z H σ Γ F d v (R : Sl → Prop) (Q : St → Hp → Prop), Same Z H → Rsl K Z H Γ σ F → Rzs K Z d v → g d Γ R →
    (∀ σ' Γ' F', Rsl K Z H Γ' σ' F' → (∀ x ∈ F', x ∈ F) → wipe σ' vs = wipe σ vs → R Γ' → Q σ' H) → t v σ H Q
def canG (K : PySem.W.Frag) (vs : List Nat) (g : MG1) : TG := fun v σ H Q => ∃ Z Γ F d R, Same Z H ∧ Rsl K Z H Γ σ F ∧ Rz K Z d v ∧ g d Γ R ∧ ∀ σ' Γ' F', Rsl K Z H Γ' σ' F' → (∀ x ∈ F', x ∈ F) → wipe σ' vs = wipe σ vs → R Γ' → Q σ' H
structure VTc (X : Cx) (vs : List Nat) (tg : Expr) (g : MG1) : Prop where
  ex : ∃ t, PG X tg t ∧ SndTc X.K vs t g
structure VTcs (X : Cx) (vs : List Nat) (tg : List Expr) (g : List D → Sl → (Sl → Prop) → Prop) : Prop where
  ex : ∃ t, PGs X tg t ∧ SndTcs X.K vs t g
theorem VTc.can {X : Cx} {vs : List Nat} {tg : Expr} {g : MG1} (h : VTc X vs tg g) : PG X tg (canG X.K vs g) := by
  obtain ⟨t, pg, sn⟩ := h.ex
  exact ⟨fun pins s σ H v u Q I r ⟨Z, Γ, F, d, R, hs, rs, rz, hm, k⟩ => pg.run pins s σ H v u Q I r (sn Z H σ Γ F d v R Q hs rs rz hm k)⟩
theorem wipe_set {σ : St} {i : Nat} {x : Option V} : ∀ {vs : List Nat}, i ∈ vs → wipe (σ.set i x) vs = wipe σ vs
  | v :: vs, h => by
    unfold wipe
    by_cases e : i ∈ vs
    · rw [wipe_set e]
    · have e' : i = v := by simpa [e] using h
      subst e'
      have key : ∀ vs : List Nat, i ∉ vs → wipe (σ.set i x) vs = (wipe σ vs).set i x := by
        intro vs
        induction vs with
        | nil => intro _; rfl
        | cons w ws ih =>
          intro hn
          have hw : w ≠ i := fun z => hn (by simp [z])
          unfold wipe
          rw [ih fun z => hn (List.mem_cons_of_mem _ z), List.set_comm _ _ hw]
      rw [key vs e, List.set_set]
section
variable {X : Cx} {vs : List Nat} {pos : Pos}
theorem vtc_name {i : Nat} {x : Str} (hN : X.N.Nodup) (hp : i ∈ vs := by decide) (hi : X.N[i]? = some x := by rfl) (hx : Loc X.env.scope x := by first | exact Or.inl rfl | exact Or.inr rfl) (hf : X.fn x = true ∨ X.env.scope.names.lookup x = some .local := by first | exact .inl rfl | exact .inr rfl) : VTc X vs (.Name x pos) (tN i) :=
  ⟨_, pg_name hN hi hx hf, fun Z H σ Γ F d v R Q hs rs rz m k => by
    obtain ⟨F', rs', sub⟩ := rs.put m.1 (.frz rz) (fun x hx => absurd hx (by simp))
    exact k _ _ F' rs' (fun x hx => (sub x hx).elim (fun h => h) fun h => absurd h (by simp)) (wipe_set hp) m.2⟩
theorem vtcs_nil : VTcs X vs [] tNil := ⟨_, pgs_nil, fun Z H σ Γ F d v R Q hs rs rz m k => by
  obtain ⟨e, m⟩ := m
  subst e
  cases rz
  exact ⟨rfl, k _ _ F rs (fun x h => h) rfl m⟩⟩
theorem vtcs_cons {e : Expr} {es : List Expr} {g : MG1} {gs : List D → Sl → (Sl → Prop) → Prop} (h : VTc X vs e g) (hh : VTcs X vs es gs)
    (hs : (assignEach (e :: es) X.env).map (·.2) = assign e X.env :: (assignEach es X.env).map (·.2) := by rfl) : VTcs X vs (e :: es) (tCons g gs) := by
  obtain ⟨t, pg, sn⟩ := h.ex
  obtain ⟨t', pg', sn'⟩ := hh.ex
  refine ⟨_, pgs_cons pg pg' hs, fun Z H σ Γ F d v R Q hs rs rz m k => ?_⟩
  obtain ⟨d0, r, e, m⟩ := m
  subst e
  cases rz with
  | cons r0 rr =>
    refine ⟨_, _, rfl, sn Z H σ Γ F d0 _ _ _ hs rs r0 m fun σ1 Γ1 F1 rs1 sub1 p1 q1 => ?_⟩
    exact sn' Z H σ1 Γ1 F1 r _ R _ hs rs1 rr q1 fun σ2 Γ2 F2 rs2 sub2 p2 q2 => k _ _ F2 rs2 (fun x h => sub1 x (sub2 x h)) (p2.trans p1) q2
theorem vtc_tup {es : List Expr} {kk : Nat} {gs : List D → Sl → (Sl → Prop) → Prop} (hc : X.calm = true) (h : VTcs X vs es gs)
    (hn : (assignEach es X.env).length = es.length := by rfl) (hst : (assignEach es X.env).findIdx? (·.1) = none := by rfl) : VTc X vs (.Tuple es kk pos) (tTup es.length gs) := by
  obtain ⟨t, pg, sn⟩ := h.ex
  refine ⟨_, pg_tup hc pg hn hst, fun Z H σ Γ F d v R Q hs rs rz m k => ?_⟩
  obtain ⟨ds, e, hl, m⟩ := m
  subst e
  cases rz with
  | tup h1 h2 => exact ⟨_, _, rfl, SqT.mono (rd_same hs) h1, h2.length.symm.trans hl, sn Z H σ Γ F ds _ R _ hs rs h2 m k⟩
end
/-! ### own slots forgotten -/
theorem wipe_idem {σ : St} : ∀ vs : List Nat, wipe (wipe σ vs) vs = wipe σ vs := by
  intro vs
  apply List.ext_getElem?
  intro j
  by_cases hj : j ∈ vs
  · have key : ∀ (τ : St) (vs : List Nat), j ∈ vs → (wipe τ vs)[j]? = if j < τ.length then some none else none := by
      intro τ vs
      induction vs with
      | nil => intro h; cases h
      | cons v vs ih =>
        intro h
        unfold wipe
        by_cases e : v = j
        · subst e
          by_cases hl : v < τ.length
          · rw [List.getElem?_set_self (by rw [wipe_length]; exact hl), if_pos hl]
          · rw [List.getElem?_eq_none (by rw [List.length_set, wipe_length]; omega), if_neg hl]
        · rw [List.getElem?_set_ne e]
          exact ih (by simpa [Ne.symm e] using h)
    rw [key _ _ hj, key _ _ hj, wipe_length]
  · rw [wipe_out hj]
def wipeS (Γ : Sl) : List Nat → Sl
  | [] => Γ
  | v :: vs => (wipeS Γ vs).set v none
theorem wipeS_length (Γ : Sl) : ∀ vs : List Nat, (wipeS Γ vs).length = Γ.length
  | [] => rfl
  | v :: vs => by unfold wipeS; rw [List.length_set, wipeS_length Γ vs]
section
variable {K : PySem.W.Frag} {Z H : Hp}
theorem rsl_setn {Γ : Sl} {σ : St} {F : List Addr} (r : Rsl K Z H Γ σ F) (i : Nat) (y : Option V) : ∃ F', Rsl K Z H (Γ.set i none) (σ.set i y) F' ∧ ∀ x ∈ F', x ∈ F := by
  obtain ⟨F', r', sub⟩ := r.forget i
  by_cases hi : i < Γ.length
  · exact ⟨F', r'.any y (by rw [List.getElem?_set_self hi]), sub⟩
  · have hi' : σ.length ≤ i := by rw [← r.length]; omega
    rw [List.set_eq_of_length_le hi']
    exact ⟨F', r', sub⟩
theorem rsl_wipe {Γ : Sl} {σ : St} {F : List Addr} (r : Rsl K Z H Γ σ F) : ∀ vs : List Nat, ∃ F', Rsl K Z H (wipeS Γ vs) (wipe σ vs) F' ∧ ∀ x ∈ F', x ∈ F
  | [] => ⟨F, r, fun x h => h⟩
  | v :: vs => by
    obtain ⟨F', r', sub⟩ := rsl_wipe r vs
    obtain ⟨F2, r2, sub2⟩ := rsl_setn r' v none
    exact ⟨F2, r2, fun x h => sub x (sub2 x h)⟩
theorem rsl_swap {Γ : Sl} {σ : St} {F : List Addr} (r : Rsl K Z H Γ σ F) : ∀ {σ' : St}, σ'.length = σ.length → (∀ i : Nat, Γ[i]? = some none ∨ σ[i]? = σ'[i]?) → Rsl K Z H Γ σ' F := by
  induction r with
  | nil =>
    intro σ' h _
    have : σ' = [] := by simpa using h
    subst this
    exact .nil
  | gap r ih =>
    intro σ' h e
    cases σ' with
    | nil => simp at h
    | cons y σ' => exact .gap (ih (by simpa using h) fun i => by simpa using e (i + 1))
  | has h1 r n ih =>
    intro σ' h e
    cases σ' with
    | nil => simp at h
    | cons y σ' =>
      have e0 := e 0
      simp at e0
      subst e0
      exact .has h1 (ih (by simpa using h) fun i => by simpa using e (i + 1)) n
theorem wipeS_at {Γ : Sl} {i : Nat} : ∀ {vs : List Nat}, i ∈ vs → i < Γ.length → (wipeS Γ vs)[i]? = some none
  | v :: vs, h, hl => by
    unfold wipeS
    by_cases e : v = i
    · subst e
      rw [List.getElem?_set_self (by rw [wipeS_length]; exact hl)]
    · rw [List.getElem?_set_ne e]
      exact wipeS_at (by simpa [Ne.symm e] using h) hl
theorem rsl_unwipe {Γ : Sl} {σ : St} {F : List Addr} {vs : List Nat} (r : Rsl K Z H (wipeS Γ vs) (wipe σ vs) F) : Rsl K Z H (wipeS Γ vs) σ F := by
  refine rsl_swap r (wipe_length σ vs).symm fun i => ?_
  by_cases hi : i ∈ vs
  · by_cases hl : i < Γ.length
    · exact .inl (wipeS_at hi hl)
    · refine .inr ?_
      have e := r.length
      rw [wipeS_length, wipe_length] at e
      rw [List.getElem?_eq_none (by rw [wipe_length]; omega), List.getElem?_eq_none (by omega)]
  · exact .inr (wipe_out hi)
end
def lcL (g : MG1) (tt : MT) (te : ME) (vs : List Nat) (R : List D → Sl → Prop) : List D → List D → Sl → Prop
  | [], acc, Γ => R acc Γ
  | d :: ds, acc, Γ => g d Γ fun Γ1 => tt Γ1 (fun b Γ2 => if b = true then te Γ2 (fun t Γ3 => acc.length < sizeLine ∧ lcL g tt te vs R ds (acc ++ [t.toD]) (wipeS Γ3 vs)) noX else lcL g tt te vs R ds acc (wipeS Γ2 vs)) noX
def mLc (mi : MI) (g : MG1) (tt : MT) (te : ME) (vs : List Nat) : ME := fun Γ R XR => mi Γ (fun ds Γ' => lcL g tt te vs (fun acc Γ'' => R (.bl acc) Γ'') ds [] (wipeS Γ' vs)) XR
theorem xok_no {K : PySem.W.Frag} {Z H : Hp} {F : List Addr} {σ : St} {W : WX} : XOk K Z H F σ noX W := fun _ _ _ _ _ _ _ _ _ _ _ q => q.elim
theorem snd_lc {K : PySem.W.Frag} {W : WX} {wi : TI} {mi : MI} {g : MG1} {tt : MT} {te : ME} {vs : List Nat} (si : SndI K W wi mi) : Snd K W (tLc wi (canG K vs g) (canT K noW tt) (canE K noW te) vs) (mLc mi g tt te vs) := fun Z H σ Γ F R XR Q hs rs m k x => by
  refine si Z H σ Γ F _ XR _ hs rs m (fun Z0 H0 Γ0 F0 J its s0 e0 r0 vit q0 D hD => ?_) x
  obtain ⟨F1, r1, sub1⟩ := rsl_wipe r0 vs
  have zD : Z0 D = none := s0.free hD
  have stp := PStep.new s0 (o := .lst []) hD
  have nD : D ∉ F1 := fun h => by obtain ⟨_, o, ho⟩ := r1.foot D h; rw [hD] at ho; cases ho
  refine ⟨fun i n H' => ∃ Z' Γ' F' acc accV, Same Z0 Z' ∧ Same Z' H' ∧ Ext Z H F Z' H' (F' ++ [D]) ∧ Rsl K Z' H' (wipeS Γ' vs) (wipe σ vs) F' ∧ D ∉ F' ∧ Z' D = none ∧ H' D = some (.lst accV) ∧ Rzs K Z' acc accV ∧ i ≤ its.length ∧ n = its.length - i ∧
    lcL g tt te vs (fun acc Γ'' => R (.bl acc) Γ'') (its.drop i) acc (wipeS Γ' vs), ⟨its.length, Z0, Γ0, F1, [], [], .refl _, stp.zh, ?_, stp.slots r1, nD, zD, upd_same, .nil, Nat.zero_le _, by simp, by simpa using q0⟩, ?_⟩
  · exact (e0.sub sub1).trans (stp.ext (G := [D]) fun y hy => by rw [List.mem_singleton.mp hy]; exact hD)
  rintro i n H1 ⟨Z1, Γ1, F1, acc, accV, z1, s1, e1, r1, nD, zD, hD, racc, hi, hn, q1⟩
  have rD : Rp K Z1 H1 (.bl acc) (.ref D) [D] := .bl hD zD racc
  have nDF : ∀ y ∈ [D], y ∉ F1 := fun y hy => by rw [List.mem_singleton.mp hy]; exact nD
  by_cases hlt : i < its.length
  · have ed : its.drop i = its[i] :: its.drop (i + 1) := List.drop_eq_getElem_cons hlt
    rw [ed] at q1
    refine .inr ⟨vit.go Z1 H1 z1 s1 i hlt, fun H' => ∃ Z' Γ' F' acc accV, Same Z0 Z' ∧ Same Z' H' ∧ Ext Z H F Z' H' (F' ++ [D]) ∧ Rsl K Z' H' (wipeS Γ' vs) (wipe σ vs) F' ∧ D ∉ F' ∧ Z' D = none ∧ H' D = some (.lst accV) ∧ Rzs K Z' acc accV ∧
      lcL g tt te vs (fun acc Γ'' => R (.bl acc) Γ'') (its.drop (i + 1)) acc (wipeS Γ' vs), ?_, ?_⟩
    · rintro H' ⟨Z', Γ', F', acc', accV', z', s', e', r', nd', zd', hd', ra', q'⟩
      exact ⟨its.length - (i + 1), by omega, Z', Γ', F', acc', accV', z', s', e', r', nd', zd', hd', ra', hlt, rfl, q'⟩
    · intro xv H2 y
      obtain ⟨Z2, st, rz⟩ := vit.yld Z1 H1 z1 s1 i _ xv H2 (List.getElem?_eq_getElem hlt) y
      have e2 : Ext Z1 H1 F1 Z2 H2 F1 := by simpa using st.ext (F := F1) (G := []) (fun x hx => absurd hx (by simp))
      refine ⟨Z2, wipeS Γ1 vs, F1, its[i], _, st.zh, st.slots r1, rz, q1, fun σ3 Γ3 F3 r3 sub3 p3 q3 => ⟨p3.trans (wipe_idem vs), ?_⟩⟩
      have e2' : Ext Z1 H1 F1 Z2 H2 F3 := e2.sub sub3
      have p3' : wipe σ3 vs = wipe σ vs := p3.trans (wipe_idem vs)
      refine ⟨Z2, Γ3, F3, _, noX, st.zh, r3, q3, fun Z4 H4 Γ4 F4 b s4 e4 r4 q4 => ?_, xok_no⟩
      have e14 := e2'.trans e4
      cases b with
      | false =>
        obtain ⟨F5, r5, sub5⟩ := rsl_wipe r4 vs
        rw [p3'] at r5
        have e15 := e14.sub sub5
        obtain ⟨kD, knD⟩ := e15.keeps rD nDF
        cases kD with
        | bl h1 h2 h3 => exact ⟨Z4, Γ4, F5, acc, _, z1.trans (st.z.trans e4.z), s4, e1.tr e15, r5, knD D (by simp), h2, h1, h3, q4⟩
      | true =>
        refine ⟨Z4, Γ4, F4, _, noX, s4, r4, q4, fun Z6 H6 Γ6 F6 ty vy G6 s6 e6 r6 p6 n6 q6 => ?_, xok_no⟩
        have h0 : ∀ x ∈ G6, Z6 x = none := fun x hx => (p6.foot x hx).1
        have e7 := ext_frz e6 h0
        have r7 := frz_slots r6 h0 n6
        have rz7 := p6.freeze (frzH_same (H := H6) h0) frzH_at
        have s7 := frzH_below (F := G6) s6
        obtain ⟨F8, r8, sub8⟩ := rsl_wipe r7 vs
        rw [p3'] at r8
        have e18 := (e14.trans e7).sub sub8
        obtain ⟨kD, knD⟩ := e18.keeps rD nDF
        cases kD with
        | @bl _ vsD a h1 h2 h3 =>
          have nDF8 : D ∉ F8 := knD D (by simp)
          refine ⟨vsD, h1, by rw [← h3.length]; exact q6.1, frzH Z6 H6 G6, Γ6, F8, acc ++ [ty.toD], vsD ++ [vy], z1.trans (st.z.trans (e4.z.trans e7.z)), same_chg s7 h2, ?_, ?_, nDF8, h2, upd_same, h3.append (.one rz7), q6.2⟩
          · have e9 := e1.tr e18
            have e10 : Ext (frzH Z6 H6 G6) H6 (F8 ++ [D]) (frzH Z6 H6 G6) (upd H6 D (.lst (vsD ++ [vy]))) (F8 ++ [D]) :=
              ⟨.refl _, fun a h => .inl h, fun a o h n => ⟨by rw [upd_ne (fun z => n (by simp [z]))]; exact h, n⟩⟩
            exact e9.trans e10
          · exact r8.mono (.refl _) fun y hy => by
              obtain ⟨hz, _⟩ := r8.foot y hy
              exact ⟨hz, upd_ne fun z => nDF8 (by rw [← z]; exact hy)⟩
  · have ei : i = its.length := by omega
    subst ei
    rw [List.drop_length] at q1
    exact .inl ⟨vit.stop Z1 H1 z1 s1, k Z1 H1 (wipeS Γ1 vs) F1 (.bl acc) (.ref D) [D] s1 e1 (rsl_unwipe r1) rD nDF q1⟩
section
variable {X : Cx} {W : WX}
theorem ve_lc {elt tg iter : Expr} {ifs : List Expr} {scope : Scope} {pos : Pos} {mi : MI} {g : MG1} {tt : MT} {te : ME} (own : List (Str × Nat)) (hc : X.calm = true) (hN : X.N.Nodup) (hi : VI X W tg iter mi) (ok : BlkOk X.N X.env.scope scope own)
    (hb : ∀ (s : Shared) (H : Hp) (C : Addr) (cl : List (Str × Addr)) (fp : List Addr), VTc (X.blk s H scope (compEnvC scope cl C X.env) fp) (own.map (·.2)) tg g ∧ VTs (X.blk s H scope (compEnvC scope cl C X.env) fp) ifs tt ∧ VE (X.blk s H scope (compEnvC scope cl C X.env) fp) noW elt te)
    (hs : ∀ x, foldedSetIterable iter X.env x = pure x := by intro _; rfl) : VE X W (.ListComp elt [⟨tg, iter, ifs, 0⟩] scope pos) (mLc mi g tt te (own.map (·.2))) := by
  obtain ⟨wi, pi, si⟩ := hi.ex
  exact ⟨_, pe_lc hc hN pi ok (fun s H C cl fp => (hb s H C cl fp).1.can) (fun s H C cl fp => (hb s H C cl fp).2.1.run) (fun s H C cl fp => (hb s H C cl fp).2.2.can) hs, snd_lc si⟩
theorem vs_setLc {np i : Nat} {y : Str} {py : Pos} {elt tg iter : Expr} {ifs : List Expr} {scope : Scope} {pos spos : Pos} {mi : MI} {g : MG1} {tt : MT} {te : ME} (own : List (Str × Nat)) (hc : X.calm = true) (hN : X.N.Nodup) (hi : VI X W tg iter mi) (ok : BlkOk X.N X.env.scope scope own)
    (hb : ∀ (s : Shared) (H : Hp) (C : Addr) (cl : List (Str × Addr)) (fp : List Addr), VTc (X.blk s H scope (compEnvC scope cl C X.env) fp) (own.map (·.2)) tg g ∧ VTs (X.blk s H scope (compEnvC scope cl C X.env) fp) ifs tt ∧ VE (X.blk s H scope (compEnvC scope cl C X.env) fp) noW elt te)
    (hp : np ≤ i := by decide) (hy : X.N[i]? = some y := by rfl) (hyl : X.env.scope.names.lookup y = some .local := by rfl) (hsw : swapsWith (.ListComp elt [⟨tg, iter, ifs, 0⟩] scope pos) (some (.Name y py)) spos.line X.env = pure true := by rfl)
    (hs : ∀ x, foldedSetIterable iter X.env x = pure x := by intro _; rfl) : VS X W np (.Assign [.Name y py] (.ListComp elt [⟨tg, iter, ifs, 0⟩] scope pos) spos) (sSet i (mLc mi g tt te (own.map (·.2)))) := by
  obtain ⟨wi, pi, si⟩ := hi.ex
  refine ⟨_, ps_setLc (g := canG X.K (own.map (·.2)) g) (tt := canT X.K noW tt) (te := canE X.K noW te) hc hN hy hyl hsw pi ok (fun s H C cl fp => (hb s H C cl fp).1.can) (fun s H C cl fp => (hb s H C cl fp).2.1.run) (fun s H C cl fp => (hb s H C cl fp).2.2.can) hs, fun Z H σ Γ F M E hs rs m k => ?_⟩
  refine snd_lc si Z H σ Γ F _ M.xr _ hs rs m (fun Z' H' Γ' F' r v G s1 e1 r1 p1 n1 q => ?_) k.xok
  obtain ⟨F2, rs2, sub⟩ := put_slot r1 q.1 p1 n1
  exact k.nx Z' H' _ _ F2 s1 (e1.sub fun a ha => List.mem_append.mpr (sub a ha)) rs2 (take_set hp) q.2
end
end VL
set_option Elab.async false
set_option linter.all false
set_option autoImplicit false
set_option maxRecDepth 100000
set_option maxHeartbeats 2000000
/-! VL12: stores into containers, methods of texts, built-in calls, chains, displays of dicts. -/
namespace VL
open PySem PySem.Spec L2 TL
open PyProof.Rows hiding St

/-! ### x[i] = v -/
/-- of the container's tree, the index and the value: the tree behind -/
def SetV (X : Cx) (op : T → D → D → (T → Prop) → Prop) : Prop :=
  ∃ r : TSet, PSet X r ∧ ∀ Z H t v G i iv d dv (R : T → Prop) (Q : Hp → Prop), Same Z H → Rp X.K Z H t v G → Rz X.K Z i iv → Rz X.K Z d dv → op t i d R →
    (∀ H' t' G', Same Z H' → (∀ a, a ∉ G → H' a = H a) → Rp X.K Z H' t' v G' → (∀ x ∈ G', x ∈ G) → R t' → Q H') → r v iv dv H Q
theorem SetV.or {X : Cx} {a b : T → D → D → (T → Prop) → Prop} (h : SetV X a) (g : SetV X b) : SetV X (fun t i d R => a t i d R ∨ b t i d R) := by
  obtain ⟨r, h1, h2⟩ := h
  obtain ⟨r', g1, g2⟩ := g
  refine ⟨fun o i v H Q => r o i v H Q ∨ r' o i v H Q, fun pins s σ H o i v ov iv u Q I ro ri rv q => q.elim (fun q => h1 pins s σ H o i v ov iv u Q I ro ri rv q) fun q => g1 pins s σ H o i v ov iv u Q I ro ri rv q, ?_⟩
  intro Z H t v G i iv d dv R Q hs rp ri rd q k
  exact q.elim (fun q => .inl (h2 Z H t v G i iv d dv R Q hs rp ri rd q k)) fun q => .inr (g2 Z H t v G i iv d dv R Q hs rp ri rd q k)
def oPutL : T → D → D → (T → Prop) → Prop := fun t i d R => ∃ ds k j, t = .bl ds ∧ i = .int k ∧ ixN ds.length k = some j ∧ R (.bl (ds.set j d))
def oPutD : T → D → D → (T → Prop) → Prop := fun t i d R => ∃ kvs k, t = .bd kvs ∧ i.key = some k ∧ kvs.length < sizeLine ∧ R (.bd (putD kvs k d))
def oPut : T → D → D → (T → Prop) → Prop := fun t i d R => oPutL t i d R ∨ oPutD t i d R
section
variable {X : Cx}
theorem sv_list : SetV X oPutL := ⟨_, set_list, fun Z H t v G i iv d dv R Q hs rp ri rd ⟨ds, k, j, e1, e2, hj, q⟩ kk => by
  subst e1; subst e2
  cases rp with
  | @bl _ vs a h1 h2 h3 =>
    cases ri
    refine ⟨a, vs, k, j, rfl, rfl, h1, by rw [← h3.length]; exact hj, ?_⟩
    exact kk _ (.bl (ds.set j d)) [a] (same_chg hs h2) (fun b hb => upd_ne fun z => hb (by rw [z]; simp)) (chg_bl h2 (h3.set rd j)) (fun x hx => hx) q⟩
theorem sv_dict (hu : X.A.units + 1 < cLine) : SetV X oPutD := ⟨_, set_dict hu, fun Z H t v G i iv d dv R Q hs rp ri rd ⟨kvs, k, e1, e2, hl, q⟩ kk => by
  subst e1
  cases rp with
  | @bd _ kvs' a h1 h2 h3 h4 =>
    have ek := keyV (Vw.rz (H := H) ri) e2
    subst ek
    have hl' : kvs'.length < sizeLine := by
      have := congrArg List.length h3
      rw [List.length_map, List.length_map] at this
      omega
    refine ⟨a, _, rfl, .k h1 hl', ?_⟩
    obtain ⟨p1, p2⟩ := rzs_putD h3 h4 k rd
    exact kk _ (.bd (putD kvs k d)) [a] (same_chg hs h2) (fun b hb => upd_ne fun z => hb (by rw [z]; simp)) (.bd upd_same h2 p1 p2) (fun x hx => hx) q⟩
theorem sv (hu : X.A.units + 1 < cLine) : SetV X oPut := sv_list.or (sv_dict hu)
/-- the target x[i], x a name -/
def tSub (i : Nat) (op : T → D → D → (T → Prop) → Prop) (mi : ME) : MG1 := fun d Γ R => slT Γ i (fun _ => True) ∧ mi Γ (fun ti Γ' => slT Γ' i fun t => op t ti.toD d fun t' => R (Γ'.set i (some t'))) noX
theorem vtg_sub {np i : Nat} {x : Str} {ie : Expr} {mi : ME} {op : T → D → D → (T → Prop) → Prop} {px pos : Pos} (hv : SetV X op) (hi : VE X noW ie mi) (hN : X.N[i]? = some x := by rfl)
    (hvs : Vis X.env.scope x := by first | exact Or.inl rfl | exact Or.inr (Or.inl rfl) | exact Or.inr (Or.inr rfl)) (hd : (x == ("__debug__" : Str)) = false := by decide) (hcd : (x == ("__classdict__" : Str)) = false := by decide)
    (ha : ∀ v, assign (.Subscript (.Name x px) ie pos) X.env v = (do
      let ov ← holding [v] (eval (.Name x px) X.env)
      let iv ← holding [v, ov] (eval ie X.env)
      standAt pos
      holding [v, ov, iv] (setItem ov iv v)
      release [v, ov, iv] []) := by intro _; rfl) : VTg X np (.Subscript (.Name x px) ie pos) (tSub i op mi) := by
  obtain ⟨r, h1, h2⟩ := hv
  obtain ⟨ti, pi, si⟩ := hi.ex
  refine ⟨_, pg_sub (pe_var hN hvs hd hcd) pi h1 ha, fun Z H σ Γ F d v R Q hs rs rz m k => ?_⟩
  obtain ⟨t0, et0, _⟩ := slT_at m.1
  obtain ⟨ov, G0, ev, rp0, _⟩ := rs.at et0
  refine ⟨ov, ev, snd_frz si (R := fun di Γ' => slT Γ' i fun t => op t di d fun t' => R (Γ'.set i (some t'))) hs rs m.2 (fun Z1 H1 Γ1 F1 di iv s1 e1 r1 ri q1 => ?_) xok_no⟩
  obtain ⟨t, et, q⟩ := slT_at q1
  obtain ⟨v2, G, ev2, rp, sub⟩ := r1.at et
  rw [ev] at ev2
  cases ev2
  refine h2 Z1 H1 t ov G di iv d v _ _ s1 rp ri (rz.mono e1.z) q (fun H' t' G' sm hk rp' sub' qq => ?_)
  obtain ⟨F', r', m'⟩ := r1.chg et ev rp hk rp' sub'
  have ex2 : Ext Z1 H1 F1 Z1 H' F' := ⟨.refl _, fun a h => .inl h, fun a o h n => ⟨by rw [hk a fun q => n (sub a q)]; exact h, fun q => n (m' a q)⟩⟩
  exact k Z1 H' σ _ F' sm (e1.trans ex2) r' rfl qq
/-! ### self.f = e -/
def putT (f : Str) (t : T) : List (Str × T) → List (Str × T)
  | [] => [(f, t)]
  | (g, x) :: r => if g = f then (g, t) :: r else (g, x) :: putT f t r
theorem putT_rep {K : PySem.W.Frag} {Z H : Hp} {f : Str} {t : T} {v : V} {G : List Addr} (rt : Rp K Z H t v G) : ∀ {fs : List (Str × T)} {fs' : List (Str × V)} {F : List Addr}, fs'.map (·.1) = fs.map (·.1) → Rps K Z H (fs.map (·.2)) (fs'.map (·.2)) F → (∀ x ∈ G, x ∉ F) →
    ∃ F', (putF f v fs').map (·.1) = (putT f t fs).map (·.1) ∧ Rps K Z H ((putT f t fs).map (·.2)) ((putF f v fs').map (·.2)) F' ∧ ∀ x ∈ F', x ∈ F ∨ x ∈ G
  | [], [], _, _, r, n => by
    cases r
    exact ⟨G ++ [], rfl, .cons rt .nil (fun x _ h => absurd h (by simp)), fun x hx => .inr (by simpa using hx)⟩
  | [], _ :: _, _, e, _, _ => by simp at e
  | _ :: _, [], _, e, _, _ => by simp at e
  | (g, x) :: fs, (g', y) :: fs', _, e, r, n => by
    simp only [List.map_cons, List.cons.injEq] at e
    obtain ⟨rfl, e⟩ := e
    simp only [List.map_cons] at r
    cases r with
    | @cons _ _ F1 _ _ F2 h1 r d =>
      by_cases hg : g' = f
      · refine ⟨G ++ F2, ?_, ?_, fun x hx => (List.mem_append.mp hx).elim .inr fun h => .inl (List.mem_append_right _ h)⟩
        · simp only [putF, putT, if_pos hg, List.map_cons, e]
        · simp only [putF, putT, if_pos hg, List.map_cons]
          exact .cons rt r fun x hx hx' => n x hx (List.mem_append_right _ hx')
      · obtain ⟨F', p1, p2, p3⟩ := putT_rep (f := f) rt e r (fun x hx hx' => n x hx (List.mem_append_right _ hx'))
        refine ⟨F1 ++ F', ?_, ?_, fun x hx => ?_⟩
        · simp only [putF, putT, if_neg hg, List.map_cons, p1]
        · simp only [putF, putT, if_neg hg, List.map_cons]
          exact .cons h1 p2 fun x hx hx' => (p3 x hx').elim (d x hx) fun h => n x h (List.mem_append_left _ hx)
        · rcases List.mem_append.mp hx with h | h
          · exact .inl (List.mem_append_left _ h)
          · exact (p3 x h).elim (fun h => .inl (List.mem_append_right _ h)) .inr
def sFldS (i : Nat) (Cs : List Addr) (f : Str) (m : ME) : MS := fun Γ M => m Γ (fun t Γ' => ∃ C fs, Γ'[i]? = some (some (.bo C fs)) ∧ C ∈ Cs ∧ fs.length < 1000 ∧ M.nx (Γ'.set i (some (.bo C (putT f t fs))))) M.xr
theorem vs_fld {W : WX} {np i : Nat} {x f : Str} {Cs : List Addr} {e : Expr} {m : ME} {px pos' pos : Pos} (hc : FldOk X.K Cs f) (h : VE X W e m) (hN : X.N[i]? = some x := by rfl)
    (hvs : Vis X.env.scope x := by first | exact Or.inl rfl | exact Or.inr (Or.inl rfl) | exact Or.inr (Or.inr rfl)) (hd : (x == ("__debug__" : Str)) = false := by decide) (hcd : (x == ("__classdict__" : Str)) = false := by decide)
    (hs : swapsWith e (some (.Attribute (.Name x px) f pos')) pos.line X.env = pure false := by rfl) : VS X W np (.Assign [.Attribute (.Name x px) f pos'] e pos) (sFldS i Cs f m) := by
  obtain ⟨t, pe, sn⟩ := h.ex
  refine ⟨_, ps_fld (pe_var hN hvs hd hcd) pe hs, fun Z H σ Γ F M E hs rs m k => sn Z H σ Γ F _ M.xr _ hs rs m (fun Z1 H1 Γ1 F1 t v G s1 e1 r1 p1 n1 q => ?_) k.xok⟩
  obtain ⟨C, fs, et, hC, hl, q⟩ := q
  obtain ⟨ov, G0, F0, ev, rp, r0, mm, nn⟩ := r1.out et
  cases rp with
  | @bo _ dx _ fs' a F2 h1 h2 h3 h4 h5 =>
    have lf : fs'.length = fs.length := by
      have := congrArg List.length h3
      rwa [List.length_map, List.length_map] at this
    refine ⟨.ref a, ev, a, C, dx, fs', rfl, h1, (hc _ hC).1, (hc _ hC).2, by omega, ?_⟩
    have aF : a ∈ F1 := (mm a).mpr (.inl (by simp))
    have aG : a ∉ G := fun h => n1 a h aF
    obtain ⟨F', p1', p2', p3'⟩ := putT_rep (f := f) p1 h3 h4 (fun x hx hx' => n1 x hx ((mm x).mpr (.inl (List.mem_cons_of_mem _ hx'))))
    have aF' : a ∉ F' := fun h => (p3' a h).elim h5 aG
    have keep : ∀ b, b ≠ a → upd H1 a (.ins C dx (putF f v fs')) b = H1 b := fun b hb => upd_ne hb
    have rn : Rp X.K Z1 (upd H1 a (.ins C dx (putF f v fs'))) (.bo C (putT f t fs)) (.ref a) (a :: F') := .bo upd_same h2 p1' (p2'.mono (.refl _) fun b hb => by
      have := (p2'.foot b hb).1
      exact ⟨this, keep b fun z => aF' (by rw [← z]; exact hb)⟩) aF'
    have r2 : Rsl X.K Z1 (upd H1 a (.ins C dx (putF f v fs'))) (Γ1.set i none) σ F0 := r0.mono (.refl _) fun b hb => ⟨(r0.foot b hb).1, keep b fun z => nn a (by simp) (by rw [← z]; exact hb)⟩
    have hi : i < (Γ1.set i none).length := by rw [List.length_set]; exact (List.getElem?_eq_some_iff.mp et).1
    obtain ⟨F3, r3, m3⟩ := r2.put hi rn (fun b hb hb' => by
      rcases List.mem_cons.mp hb with z | z
      · exact nn a (by simp) (by rw [← z]; exact hb')
      · rcases p3' b z with z | z
        · exact nn b (List.mem_cons_of_mem _ z) hb'
        · exact n1 b z ((mm b).mpr (.inr hb')))
    rw [set_same ev, List.set_set] at r3
    have ex2 : Ext Z1 H1 (F1 ++ G) Z1 (upd H1 a (.ins C dx (putF f v fs'))) F3 := ⟨.refl _, fun b h => .inl h, fun b o h n => ⟨by rw [keep b fun z => n (by rw [z]; exact List.mem_append_left _ aF)]; exact h, fun hb => n ?_⟩⟩
    · exact k.nx Z1 _ σ _ F3 (same_chg s1 h2) (e1.trans ex2) r3 rfl q
    · rcases m3 b hb with h | h
      · exact List.mem_append_left _ ((mm b).mpr (.inr h))
      · rcases List.mem_cons.mp h with z | z
        · rw [z]; exact List.mem_append_left _ aF
        · rcases p3' b z with z | z
          · exact List.mem_append_left _ ((mm b).mpr (.inl (List.mem_cons_of_mem _ z)))
          · exact List.mem_append_right _ z
end

/-! ### methods of texts -/
def StrV (X : Cx) (id : String) (op : Str → List D → (T → Prop) → Prop) : Prop :=
  ∃ r, MtR X id r ∧ ∀ Z H s ds vs R Q, Same Z H → PyData.strOk s = true → Rzs X.K Z ds vs → op s ds R → PK X.K Z H R Q → r (.str s) vs H Q
def mStr1 (op : Str → List D → (T → Prop) → Prop) (mo me : ME) : ME := fun Γ R XR => mo Γ (fun t Γ1 => ∃ s, t = .frz (.str s) ∧ me Γ1 (fun te Γ2 => op s [te.toD] fun t' => R t' Γ2) XR) XR
def mStr0 (op : Str → List D → (T → Prop) → Prop) (mo : ME) : ME := fun Γ R XR => mo Γ (fun t Γ1 => ∃ s, t = .frz (.str s) ∧ op s [] fun t' => R t' Γ1) XR
section
variable {X : Cx} {W : WX}
theorem ve_str1 {id : String} {op : Str → List D → (T → Prop) → Prop} {name : Str} {apos pos : Pos} {o e : Expr} {mo me : ME} (slot : Slot "str" name id) (ty : typeOf (.builtin id) = pure (.type "method_descriptor")) (h : StrV X id op) (ho : VE X W o mo) (he : VE X W e me)
    (hs : starEach [e] X.env = [(false, eval e X.env)] := by rfl) (hbase : attributeBase o name X.env (eval o X.env) = eval o X.env := by rfl) (hline : (apos.endLine == pos.line) = true := by rfl) : VE X W (.Call (.Attribute o name apos) [e] [] pos) (mStr1 op mo me) := by
  obtain ⟨r, h1, h2⟩ := h
  obtain ⟨to, po, so⟩ := ho.ex
  obtain ⟨te, pe, se⟩ := he.ex
  refine ⟨_, pe_m1 slot ty h1 po pe hs hbase hline, fun Z H σ Γ F R XR Q hs rs m k x => ?_⟩
  refine so Z H σ Γ F _ XR _ hs rs m (fun Z1 H1 Γ1 F1 t v G s1 e1 r1 p1 n1 q1 => ?_) x
  obtain ⟨s, et, q1⟩ := q1
  subst et
  cases p1 with
  | frz rz =>
    cases rz with
    | str _ ok =>
      have e1' := e1.sub fun _ h => List.mem_append_left _ h
      refine ⟨⟨s, rfl⟩, snd_frz se (R := fun d Γ2 => op s [d] fun t' => R t' Γ2) s1 r1 q1 (fun Z2 H2 Γ2 F2 d v s2 e2 r2 rz q2 => ?_) (x.step0 e1')⟩
      exact h2 Z2 H2 s [d] [v] _ Q s2 ok (.cons rz .nil) q2 (k.ofPE (e1'.trans e2) r2)
theorem ve_str0 {id : String} {op : Str → List D → (T → Prop) → Prop} {name : Str} {apos pos : Pos} {o : Expr} {mo : ME} (slot : Slot "str" name id) (ty : typeOf (.builtin id) = pure (.type "method_descriptor")) (h : StrV X id op) (ho : VE X W o mo)
    (hbase : attributeBase o name X.env (eval o X.env) = eval o X.env := by rfl) (hline : (apos.endLine == pos.line) = true := by rfl) : VE X W (.Call (.Attribute o name apos) [] [] pos) (mStr0 op mo) := by
  obtain ⟨r, h1, h2⟩ := h
  obtain ⟨to, po, so⟩ := ho.ex
  refine ⟨_, pe_m0 slot ty h1 po hbase hline, fun Z H σ Γ F R XR Q hs rs m k x => ?_⟩
  refine so Z H σ Γ F _ XR _ hs rs m (fun Z1 H1 Γ1 F1 t v G s1 e1 r1 p1 n1 q1 => ?_) x
  obtain ⟨s, et, q1⟩ := q1
  subst et
  cases p1 with
  | frz rz =>
    cases rz with
    | str _ ok => exact ⟨⟨s, rfl⟩, h2 Z1 H1 s [] [] _ Q s1 ok .nil q1 (k.ofPE (e1.sub fun _ h => List.mem_append_left _ h) r1)⟩
def oSplit : Str → List D → (T → Prop) → Prop := fun s ds R => ∃ b, ds = [.str b] ∧ (b.length == 0) = false ∧ s.length + 2 ≤ sizeLine ∧ R (.bl ((Txt.split s b).map D.str))
theorem st_split : StrV X "str.split" oSplit := ⟨_, mt_split, fun Z H s ds vs R Q hs ok rz ⟨b, e, hb, hl, q⟩ k => by
  subst e
  cases rz with
  | cons r0 rr =>
    cases rr
    cases r0
    exact ⟨s, b, rfl, rfl, hb, hl, k.lst hs (.ofStrs _ fun z hz => strOk_split ok hz) q⟩⟩
def oJoin : Str → List D → (T → Prop) → Prop := fun s ds R => ∃ ys : List Str, (ds = [.lst (ys.map D.str)] ∨ ds = [.tup (ys.map D.str)]) ∧ (ys.map (·.length)).sum + ys.length * s.length ≤ 16777216 ∧ R (.frz (.str (Txt.join s ys)))
theorem st_join : StrV X "str.join" oJoin := ⟨_, mt_join, fun Z H s ds vs R Q hs ok rz ⟨ys, e, hl, q⟩ k => by
  rcases e with e | e
  · subst e
    cases rz with
    | cons r0 rr =>
      cases rr
      cases r0 with
      | lst h1 h2 =>
        have okp := Rzs.strsOk h2
        have ev := Rzs.strs h2
        subst ev
        exact ⟨s, _, ys, rfl, rfl, .inl (.inl (.inl (hs _ _ h1))), hl, k.frz hs (.str _ (strOk_join ok okp)) q⟩
  · subst e
    cases rz with
    | cons r0 rr =>
      cases rr
      cases r0 with
      | tup h1 h2 =>
        have okp := Rzs.strsOk h2
        have ev := Rzs.strs h2
        subst ev
        exact ⟨s, _, ys, rfl, rfl, .inr (SqT.mono (rd_same hs) h1), hl, k.frz hs (.str _ (strOk_join ok okp)) q⟩⟩

/-! ### built-in calls -/
def oLen : D → (T → Prop) → Prop := fun d R => match d with
  | .str s => s.length ≤ sizeLine ∧ R (.frz (.int s.length))
  | .lst ds => R (.frz (.int ds.length))
  | .tup ds => R (.frz (.int ds.length))
  | .scr ns => R (.frz (.int ns.length))
  | _ => False
theorem cv_len : CallV1 X (.builtin "len") oLen := ⟨_, call_len, fun Z H d v R Q hs w q k => by
  cases d with
  | str s => rw [w.strE.1]; exact ⟨_, _, rfl, ⟨q.1, rfl⟩, k.frz hs (.int _) q.2⟩
  | lst ds =>
    obtain ⟨a, vs, rfl, h1, r⟩ := w.lstE hs
    exact ⟨_, _, rfl, .inl ⟨vs, .inl (.inl h1), rfl⟩, by rw [← r.length]; exact k.frz hs (.int _) q⟩
  | tup ds =>
    obtain ⟨a, vs, rfl, h1, r⟩ := w.tupE hs
    exact ⟨_, _, rfl, .inr ⟨vs, h1, rfl⟩, by rw [← r.length]; exact k.frz hs (.int _) q⟩
  | scr ns =>
    obtain ⟨a, rfl, h1⟩ := w.scrE hs
    exact ⟨_, _, rfl, .inl ⟨_, h1, rfl⟩, by rw [List.length_map]; exact k.frz hs (.int _) q⟩
  | _ => exact q.elim⟩
def oInt1 : D → (T → Prop) → Prop := fun d R => match d with
  | .int i => R (.frz (.int i))
  | .bl b => R (.frz (.int (if b then 1 else 0)))
  | _ => False
theorem cv_int : CallV1 X (.type "int") oInt1 := ⟨_, call_int1, fun Z H d v R Q hs w q k => by
  cases d with
  | int i => rw [w.intE]; exact .inl ⟨i, rfl, k.frz hs (.int _) q⟩
  | bl b => rw [w.blE]; exact .inr ⟨b, rfl, k.frz hs (.int _) q⟩
  | _ => exact q.elim⟩
def oAbs : D → (T → Prop) → Prop := fun d R => ∃ i, d = .int i ∧ R (.frz (.int (if i < 0 then -i else i)))
theorem cv_abs : CallV1 X (.builtin "abs") oAbs := ⟨_, call_abs, fun Z H d v R Q hs w ⟨i, e, q⟩ k => by subst e; rw [w.intE]; exact ⟨i, rfl, k.frz hs (.int _) q⟩⟩
def oStr1 : D → (T → Prop) → Prop := fun d R => match d with
  | .int i => i.natAbs.log2 < 1920 ∧ R (.frz (.str (toString i)))
  | _ => False
def oListOf : D → (T → Prop) → Prop := fun d R => match d with
  | .lst ds => R (.bl ds)
  | .tup ds => R (.bl ds)
  | .scr ns => R (.bl (ns.map D.int))
  | _ => False
theorem cv_list : CallV1 X (.type "list") oListOf := ⟨_, call_list_of, fun Z H d v R Q hs w q k => by
  cases d with
  | lst ds =>
    obtain ⟨a, vs, rfl, h1, r⟩ := w.lstE hs
    exact ⟨_, vs, rfl, .inl (.inl (.inl h1)), k.lst hs r q⟩
  | tup ds =>
    obtain ⟨a, vs, rfl, h1, r⟩ := w.tupE hs
    exact ⟨_, vs, rfl, .inr h1, k.lst hs r q⟩
  | scr ns =>
    obtain ⟨a, rfl, h1⟩ := w.scrE hs
    exact ⟨_, _, rfl, .inl h1, k.lst hs (.ofInts _) q⟩
  | _ => exact q.elim⟩
def oTupOf : D → (T → Prop) → Prop := fun d R => match d with
  | .lst ds => R (.frz (.tup ds))
  | .tup ds => R (.frz (.tup ds))
  | _ => False
theorem cv_tup : CallV1 X (.type "tuple") oTupOf := ⟨_, call_tuple_of, fun Z H d v R Q hs w q k => by
  cases d with
  | lst ds =>
    obtain ⟨a, vs, rfl, h1, r⟩ := w.lstE hs
    exact ⟨_, vs, rfl, .inl ⟨.inl (.inl h1), k.tup hs r q⟩⟩
  | tup ds =>
    obtain ⟨a, vs, rfl, h1, r⟩ := w.tupZ
    exact ⟨_, vs, rfl, .inr ⟨SqT.mono (rd_same hs) h1, k.frz hs (.tup h1 r) q⟩⟩
  | _ => exact q.elim⟩
def oAll : D → (T → Prop) → Prop := fun d R => ∃ bs : List Bool, d = .lst (bs.map D.bl) ∧ R (.frz (.bl (bs.all id)))
def oAny : D → (T → Prop) → Prop := fun d R => ∃ bs : List Bool, d = .lst (bs.map D.bl) ∧ R (.frz (.bl (bs.any id)))
theorem cv_all (hc : X.calm = true) : CallV1 X (.builtin "all") oAll := ⟨_, cr_all hc, fun Z H d v R Q hs w ⟨bs, e, q⟩ k => by
  subst e
  obtain ⟨a, vs, rfl, h1, r⟩ := w.lstE hs
  rw [Rzs.bls r] at h1
  exact ⟨a, bs, rfl, .inl (.inl h1), k.frz hs (.bl _) q⟩⟩
theorem cv_any (hc : X.calm = true) : CallV1 X (.builtin "any") oAny := ⟨_, cr_any hc, fun Z H d v R Q hs w ⟨bs, e, q⟩ k => by
  subst e
  obtain ⟨a, vs, rfl, h1, r⟩ := w.lstE hs
  rw [Rzs.bls r] at h1
  exact ⟨a, bs, rfl, .inl (.inl h1), k.frz hs (.bl _) q⟩⟩
/-! ### a text many times -/
def rMulS : R2 := fun x y H Q => ∃ s n, x = .str s ∧ y = .int n ∧ MulOk s n ∧ Q (.str (Txt.mul s n)) H
theorem op_mulS : OpR X (binaryOp .Mult) rMulS := by
  intro pins s σ H x y v u Q I rx ry ⟨a, n, e1, e2, hk, q⟩
  subst e1; subst e2
  obtain ⟨t, rfl⟩ := rx
  obtain ⟨t', rfl⟩ := ry
  exact SB.mul hk fun t' k => ⟨.str _, H, I.tok _, ⟨_, rfl⟩, q⟩
def oMulS : D → D → (T → Prop) → Prop := fun d e R => ∃ s n, d = .str s ∧ e = .int n ∧ MulOk s n ∧ PyData.strOk (Txt.mul s n) = true ∧ R (.frz (.str (Txt.mul s n)))
theorem ov_mulS : OpV X (binaryOp .Mult) oMulS := ⟨_, op_mulS, fun Z H d v d' v' R Q hs w w' ⟨s, n, e1, e2, hk, ok, q⟩ k => by
  subst e1; subst e2
  rw [w.strE.1, w'.intE]
  exact ⟨s, n, rfl, rfl, hk, k.frz hs (.str _ ok) q⟩⟩
/-! ### a op b op c -/
def mChain (o o' : D → D → (T → Prop) → Prop) (ma mb mc : ME) : ME := fun Γ R XR => ma Γ (fun ta Γ1 => mb Γ1 (fun tb Γ2 => o ta.toD tb.toD fun t => ∃ k, t = .frz (.bl k) ∧ if k = true then mc Γ2 (fun tc Γ3 => o' tb.toD tc.toD fun t => R t Γ3) XR else R (.frz (.bl false)) Γ2) XR) XR
theorem snd_chain {r r' : R2} {o o' : D → D → (T → Prop) → Prop} {ta tb tc : TE} {ma mb mc : ME} (h2 : ∀ Z H d v d' v' R Q, Same Z H → Vw X.K Z H d v → Vw X.K Z H d' v' → o d d' R → PK X.K Z H R Q → r v v' H Q)
    (h2' : ∀ Z H d v d' v' R Q, Same Z H → Vw X.K Z H d v → Vw X.K Z H d' v' → o' d d' R → PK X.K Z H R Q → r' v v' H Q) (sa : Snd X.K W ta ma) (sb : Snd X.K W tb mb) (sc : Snd X.K W tc mc) : Snd X.K W (tChain r r' ta tb tc) (mChain o o' ma mb mc) := fun Z H σ Γ F R XR Q hs rs m k x => by
  refine snd_frz sa (R := fun da Γ1 => mb Γ1 (fun tb Γ2 => o da tb.toD fun t => ∃ k, t = .frz (.bl k) ∧ if k = true then mc Γ2 (fun tc Γ3 => o' tb.toD tc.toD fun t => R t Γ3) XR else R (.frz (.bl false)) Γ2) XR) hs rs m (fun Z1 H1 Γ1 F1 da va s1 e1 r1 ra q1 => ?_) x
  refine snd_frz sb (R := fun db Γ2 => o da db fun t => ∃ k, t = .frz (.bl k) ∧ if k = true then mc Γ2 (fun tc Γ3 => o' db tc.toD fun t => R t Γ3) XR else R (.frz (.bl false)) Γ2) s1 r1 q1 (fun Z2 H2 Γ2 F2 db vb s2 e2 r2 rb q2 => ?_) (x.step0 e1)
  refine h2 Z2 H2 da va db vb _ _ s2 (.rz (ra.mono e2.z)) (.rz rb) q2 (fun Z3 H3 t u G st hG rp qq => ?_)
  obtain ⟨b, et, qq⟩ := qq
  subst et
  cases rp with
  | frz rz =>
    cases rz
    refine ⟨b, rfl, ?_⟩
    have e3 : Ext Z2 H2 F2 Z3 H3 F2 := by simpa using st.ext (F := F2) (G := []) (fun x hx => absurd hx (by simp))
    have e13 := (e1.trans e2).trans e3
    have r3 := st.slots r2
    cases b with
    | false => exact (k.step e13).pure st.zh r3 (.bl _) qq
    | true =>
      refine snd_frz sc (R := fun dc Γ3 => o' db dc fun t => R t Γ3) st.zh r3 qq (fun Z4 H4 Γ4 F4 dc vc s4 e4 r4 rc q4 => ?_) (x.step0 e13)
      exact h2' Z4 H4 db vb dc vc _ Q s4 (.rz (rb.mono (e3.z.trans e4.z))) (.rz rc) q4 (k.ofPE (e13.trans e4) r4)
theorem ve_chain {op op' : CmpOp} {o o' : D → D → (T → Prop) → Prop} {a b c : Expr} {ma mb mc : ME} {pos : Pos} (h : OpV X (compareOp op) o) (h' : OpV X (compareOp op') o') (ha : VE X W a ma) (hb : VE X W b mb) (hc : VE X W c mc)
    (hm : lastMarks [op, op'] [b, c] = false := by with_unfolding_all rfl) : VE X W (.Compare a [op, op'] [b, c] pos) (mChain o o' ma mb mc) := by
  obtain ⟨r, h1, h2⟩ := h
  obtain ⟨r', h1', h2'⟩ := h'
  obtain ⟨ta, pa, sa⟩ := ha.ex
  obtain ⟨tb, pb, sb⟩ := hb.ex
  obtain ⟨tc, pc, sc⟩ := hc.ex
  exact ⟨_, pe_chain h1 h1' pa pb pc hm, snd_chain h2 h2' sa sb sc⟩
theorem vt_chain {op op' : CmpOp} {o o' : D → D → (T → Prop) → Prop} {a b c : Expr} {ma mb mc : ME} {pos : Pos} (h : OpV X (compareOp op) o) (h' : OpV X (compareOp op') o') (ha : VE X W a ma) (hb : VE X W b mb) (hc : VE X W c mc)
    (hm : lastMarks [op, op'] [b, c] = false := by with_unfolding_all rfl) : VT X W (.Compare a [op, op'] [b, c] pos) (mTst (mChain o o' ma mb mc)) := by
  obtain ⟨r, h1, h2⟩ := h
  obtain ⟨r', h1', h2'⟩ := h'
  obtain ⟨ta, pa, sa⟩ := ha.ex
  obtain ⟨tb, pb, sb⟩ := hb.ex
  obtain ⟨tc, pc, sc⟩ := hc.ex
  exact ⟨_, pt_chain h1 h1' pa pb pc hm, snd_tst (snd_chain h2 h2' sa sb sc)⟩
end
end VL
set_option Elab.async false
set_option linter.all false
set_option autoImplicit false
set_option maxRecDepth 100000
set_option maxHeartbeats 4000000
/-! VL13: own exceptions whose __init__ calls super().__init__. -/
namespace VL
open PySem PySem.Spec PySem.Calls L2
open PyProof.Rows hiding St

/-! ### what is known of such an __init__ -/
structure SupS (N ps : List Str) (sc : Scope) : Prop where
  kind : sc.kind = .function
  co : sc.isCoroutine = false
  gen : sc.isGenerator = false
  nd : N.Nodup
  pre : N.take ps.length = ps
  par : ∀ x ∈ ps, sc.names.lookup x = some .local
  nocell : ∀ y ∈ sc.names, y.2 ≠ .cell
  free : ∀ y ∈ sc.names, y.2 = .free → y.1 = "__class__"
  cls : sc.names.lookup ("__class__" : Str) = some .free
  sup : sc.names.lookup ("super" : Str) = some .globalImplicit
/-- f, the __init__ of the class at C -/
structure SupF (P : Program) (K : PySem.W.Frag) (mg : Str → Option Value) (qual : Str) (params : Arguments) (body : List Stmt) (scope : Scope) (C f : Addr) (fd : FuncData) : Prop where
  ex : ∃ (oc : Value) (od : Option Addr) (dV kV doc pm : Value) (an : Option Addr) (cda cc : Addr) (ct : Value) (osl : Array (Option Value)), fd = PySem.W.ksFn "__init__" qual params body scope dV kV doc pm an (.ref cda) ct cc ∧ K.lookup f = some ⟨oc, od, .func fd, osl⟩ ∧
    PySem.W.codeIn K (.ref cda) qual = true ∧ (∃ (ccl : Value) (cdd : Option Addr) (us : Array Value) (ccs : Array (Option Value)) (file : Str) (tf : Tok), K.lookup cda = some ⟨ccl, cdd, .fields us, ccs⟩ ∧ us[2]? = some (.str file tf) ∧ ((P.main.file : Str) == file) = true) ∧
    ∃ (cl : Value) (cld : Option Addr) (csl : Array (Option Value)), K.lookup cc = some ⟨cl, cld, .cell (some (.ref C)), csl⟩
  oex : OexC K C
  sup : PySem.W.ks_superIn K C C "__init__" = some (some (.builtin "ValueError.__init__"))
  any : PySem.W.nsIn K PySem.cStatics "thirdparty.any" = some none
  ve : PySem.W.subIn K (.ref C) (.type "ValueError") = some true
  mro : PySem.W.mroIn K C (.ref C) = some true
  mg : mg ("super" : Str) = none
  top : (P.main.scope.names.lookup ("super" : Str)).isSome = false
abbrev sEnv (qual : Str) (scope : Scope) (L f cda cc : Addr) : Env := PySem.W.ksEnv qual scope L f (.ref cda) cc
abbrev cxS (CX : CXT) (P : Program) (w : World) (K : PySem.W.Frag) (mg : Str → Option Value) (base : Heap) (N : List Str) (qual : Str) (scope : Scope) (f cda cc : Addr) (A : Around) (outer : List Env) (s : Shared) (H : Hp) (E : XK) : Cx where
  prog := P
  w := w
  K := K
  mg := mg
  base := base
  A := A.deeper (sEnv qual scope s.heap.objs.size f cda cc)
  N := N
  s_0 := s
  H_0 := H
  env := sEnv qual scope s.heap.objs.size f cda cc
  outer := outer
  stack := sEnv qual scope s.heap.objs.size f cda cc :: outer
  ex := []
  calm := true
  fn := fun _ => false
  pn := []
  xe := fun e s' => wpAny (model P w) (A.deeper (sEnv qual scope s.heap.objs.size f cda cc)) (leaving (sEnv qual scope s.heap.objs.size f cda cc) e) (fun _ s'' => CX outer H s E e s'') (fun e' s'' => CX outer H s E e' s'') s'
section
variable {CX : CXT} {P : Program} {w : World} {K : PySem.W.Frag} {mg : Str → Option Value} {base : Heap} {N ps : List Str} {qual : Str} {scope : Scope} {f cda cc C : Addr} {A : Around} {outer : List Env} {s : Shared} {H : Hp} {E : XK} {us : List Value} {vs : List V}
theorem inv_startS {g₁ : Heap} {tk : Nat} (S : SupS N ps scope) (hd : A.handled = none) (e0 : Env0 P w K mg base A outer s H) (hl : vs.length = ps.length) (r : Vals vs us) (hcc : ∃ (cl : Value) (cld : Option Addr) (csl : Array (Option Value)), K.lookup cc = some ⟨cl, cld, .cell (some (.ref C)), csl⟩)
    (hns : g₁.Ns s.heap.objs.size fun y => (ps.zip us).reverse.lookup y) (kp : ∀ b o, s.heap.get? b = some o → g₁.get? b = some o) : Inv (cxS CX P w K mg base N qual scope f cda cc A outer s H E) [] (L2.start N vs) H { s with heap := g₁, toks := tk } := by
  obtain ⟨cl, cld, csl, hcc⟩ := hcc
  have hbase : base.get? cc = some ⟨cl, cld, .cell (some (.ref C)), csl⟩ := e0.mod.kin _ _ hcc
  obtain ⟨hsc, hHc⟩ := e0.bs _ _ hbase
  have hcell : ∀ {y : Str} {c : Addr}, ([(("__class__" : Str), cc)] : List (Str × Addr)).lookup y = some c → y = "__class__" ∧ c = cc := fun {y c} e => by
    rw [List.lookup_cons] at e
    cases q : y == ("__class__" : Str) with
    | true => rw [q] at e; exact ⟨beq_iff_eq.mp q, (Option.some.inj e).symm⟩
    | false => rw [q] at e; simp at e
  have hpl : ps.length ≤ N.length := by have := congrArg List.length S.pre; rw [List.length_take] at this; omega
  have noA : ∀ b : Addr, b ∉ (cxS CX P w K mg base N qual scope f cda cc A outer s H E).ex := fun b z => absurd (show b ∈ ([] : List Addr) from z) (by simp)
  refine ⟨⟨e0.mod, S.kind, rfl, rfl, Nat.le_refl _, fun x y c e1 e2 => ?_, fun y hy => ?_, fun y c z _ => Bool.noConfusion (show false = true from z), fun _ => hd, Around.frames_deeper e0.frames, .inr ⟨rfl, rfl⟩, fun b z => absurd z (noA b), e0.bs, e0.bsz, fun b _ _ => noA b, fun b z => absurd z (noA b), e0.funs, e0.frf⟩,
    rfl, e0.bare, Un.kept kp, ⟨_, hns, fun i y v e1 e2 e3 => ?_⟩, fun y c e => ?_, e0.hok.fresh (Nat.le_refl _), fun y c e => ?_, fun q hq => absurd (show q ∈ ([] : List (Addr × Obj)) ++ [] from hq) (by simp), e0.hok.kept kp, ?_⟩
  · rw [(hcell e1).1, (hcell e2).1]
  · have hy : scope.names.lookup y = some .cell ∨ scope.names.lookup y = some .free := hy
    rcases hy with hy | hy
    · exact absurd rfl (S.nocell _ (PySem.mem_of_lookup hy))
    · have ey : y = "__class__" := S.free _ (PySem.mem_of_lookup hy) rfl
      subst ey
      exact ⟨cc, by show List.lookup _ _ = _; rw [List.lookup_cons]; rfl⟩
  · have e1 : N[i]? = some y := e1
    unfold L2.start at e2
    have hi : i < vs.length := by
      by_cases hi : i < vs.length
      · exact hi
      · rw [List.getElem?_append_right (by rw [List.length_map]; omega), List.getElem?_replicate] at e2
        split at e2 <;> cases e2
    have hq : ps[i]? = some y := by
      rw [← S.pre, List.getElem?_take_of_lt (by omega)]
      exact e1
    rw [List.getElem?_append_left (by rw [List.length_map]; omega), List.getElem?_map] at e2
    have ha : vs[i]? = some v := by
      cases e : vs[i]? with
      | none => rw [e] at e2; cases e2
      | some a => rw [e] at e2; cases e2; rfl
    obtain ⟨u, hu, rv⟩ := r.get ha
    have ndP : ps.Nodup := by rw [← S.pre]; exact S.nd.sublist (List.take_sublist _ _)
    exact ⟨u, rv, .inl ⟨S.par y (List.mem_of_getElem? hq), NdefX.zip_look ndP hq hu⟩⟩
  · obtain ⟨_, ec⟩ := hcell e
    subst ec
    exact ⟨_, _, kp _ _ hsc, rfl⟩
  · obtain ⟨_, ec⟩ := hcell e
    subst ec
    exact hHc
  · unfold L2.start
    show _ = N.length
    rw [List.length_append, List.length_map, List.length_replicate]
    omega
end
/-! ### super().__init__(e, ..) -/
theorem boot_super : bootBuiltins ("super" : Str) = some (.type "super") := by first | exact PyProof.Rows.Boot.«super» | kernel_rfl
/-- the wrapper called at an exception being made -/
theorem call_mw {prog : Program} {w : World} {A : Around} {E : Value → Shared → Prop} {hp : Heap} {g : Array GenState} {d : Drawn} {t : Nat} {os : OsState} {nm q : Str} {C N : Addr} {bs bm : List Value} {hdct : Bool} {sn : List Str} {sub : List Value} {ab : Bool} {col : Option Bool} {dd : Option Addr} {k0 k1 k2 k3 k5 : Option Value}
    {u e t0 : Addr} {rest : List Value} {Q : Value → Shared → Prop} (hC : hp.get? C = some (excClassObj nm q C N bs bm hdct sn sub ab col dd k0 k1 k2 k3 k5 "ValueError.__new__")) (he : hp.get? e = some (PySem.HandSPX.excO C t0)) (hu : hp.get? u = some (PySem.W.kxs_mw "ValueError.__init__" e)) (hrest : rest.length ≤ sizeLine)
    (hq : ∀ h' t1, (∀ b o, b ≠ e → hp.get? b = some o → h'.get? b = some o) → h'.get? e = some (PySem.HandSPX.excO C t1) → Q .none ⟨h', g, d, t, os⟩) : wpAny (model prog w) A (call (.ref u) rest) Q E ⟨hp, g, d, t, os⟩ := by
  refine wpAny_call (codeAny_of_tree ?_)
  show wpAny _ A.in1 (callAny (.ref u) ⟨rest, []⟩) _ _ _
  unfold callAny
  refine wpAny_bind (wpAny_load hu ?_)
  dsimp only [PySem.W.kxs_mw]
  rw [if_pos (show (Value.type "method-wrapper" == Value.type "method" || Value.type "method-wrapper" == Value.type "builtin_function_or_method" || Value.type "method-wrapper" == Value.type "method-wrapper") = true by decide)]
  refine PySem.W.KFB.if_so (by decide) ?_
  refine wpAny_bind (PySem.W.check_bound_init F.excBase_ValueError.toExcCallFacts hC he rfl ?_)
  refine wpAny_bind (wpAny_pure (wpAny_pure ?_))
  refine ⟨PySem.plainId_quiet F.excBase_ValueError.init.plain _, codeAny_builtin F.excBase_ValueError.initEntry ?_⟩
  exact PySem.W.exc_init_tree (cls := .ref C) (t0 := t0) (dv := none) (c2 := .none) (c3 := .none) (b4 := .bool false) he hrest fun h' k e' t' => hq h' _ k e'
section
variable {CX : CXT} {P : Program} {w : World} {K : PySem.W.Frag} {mg : Str → Option Value} {base : Heap} {N ps : List Str} {qual : Str} {params : Arguments} {body : List Stmt} {scope : Scope} {f cda cc C : Addr} {fd : FuncData} {A : Around} {outer : List Env} {s : Shared} {H : Hp} {E : XK} {us : List Value} {vs : List V}
theorem super_at {X : Cx} {oc : Value} {od : Option Addr} {dV kV doc pm ct : Value} {an : Option Addr} {osl : Array (Option Value)} {L : Addr} {e : Expr} {es : List Expr} {ta : TA} {p0 p1 p2 p3 p4 : Pos} {ar : Arg} {pins : List (Addr × Obj)} {s1 : Shared} {σ : St} {H1 : Hp} {a : Addr} {Q : Flow → Shared → Prop} {pl : Sem Bool}
    (eP : X.prog = P) (eK : X.K = K) (eV : X.env = sEnv qual scope L f cda cc) (em : X.mg = mg) (S : SupS X.N ps scope) (F : SupF P K mg qual params body scope C f fd)
    (efd : fd = PySem.W.ksFn "__init__" qual params body scope dV kV doc pm an (.ref cda) ct cc) (lk : K.lookup f = some ⟨oc, od, .func fd, osl⟩)
    (hcode : ∃ (ccl : Value) (cdd : Option Addr) (us : Array Value) (ccs : Array (Option Value)) (file : Str) (tf : Tok), K.lookup cda = some ⟨ccl, cdd, .fields us, ccs⟩ ∧ us[2]? = some (.str file tf) ∧ ((P.main.file : Str) == file) = true)
    (hcell : ∃ (cl : Value) (cld : Option Addr) (csl : Array (Option Value)), K.lookup cc = some ⟨cl, cld, .cell (some (.ref C)), csl⟩)
    (hp : (params.posonlyargs ++ params.args).head? = some ar) (h0 : X.N[0]? = some ar.arg) (hl0 : scope.names.lookup ar.arg = some .local) (I : Inv X pins σ H1 s1) (hσ : σ[0]? = some (some (.ref a))) (ha : H1 a = some (exo a C none)) (pa : PA X (e :: es) ta)
    (hw : ta σ H1 fun vs H2 => H2 a = some (exo a C none) ∧ vs.length ≤ 1000 ∧ ∀ s2, Inv X pins σ H2 s2 → Q .next s2)
    (he : starEach (e :: es) X.env = (false, eval e X.env) :: starEach es X.env) (hpl : (backTo p3 (starEach es X.env)).any (·.1) = false)
    (hc : eval (.Call (.Attribute (.Call (.Name "super" p0) [] [] p1) "__init__" p2) (e :: es) [] p3) X.env = (do
      let ov ← attributeBase (.Call (.Name "super" p0) [] [] p1) "__init__" X.env (eval (.Call (.Name "super" p0) [] [] p1) X.env)
      standAt p2.atName
      let (f, first) ← holding [ov] (getMethod ov "__init__" pl)
      callWith p3 f first (backTo p3 (starEach (e :: es) X.env)) []))
    (hi : interactive X.env = false) (hs : swapsWith (.Call (.Attribute (.Call (.Name "super" p0) [] [] p1) "__init__" p2) (e :: es) [] p3) none p4.line X.env = pure false) :
    _root_.PySem.wpAt (model X.prog X.w) X.A (.func body X.env) (exec (.Expr (.Call (.Attribute (.Call (.Name "super" p0) [] [] p1) "__init__" p2) (e :: es) [] p3) p4) X.env) Q X.xe s1 := by
  subst eP eK em
  have KX : X.K.In s1.heap := I.kIn
  obtain ⟨ccl, cdd, usC, ccs, file, tf, hcda, hu2, hfile⟩ := hcode
  obtain ⟨cl, cld, csl, hcc⟩ := hcell
  obtain ⟨mL, hns, hlk⟩ := id I.loc
  obtain ⟨nm, q, N', bs, bm, sn, sub, ab, col, dd, k0, k1, k2, k3, k5, hC, hbm⟩ := F.oex.cls
  have hcl : PySem.W.clsIn X.K C = some { name := nm, bases := bs, mro := .ref C :: bm, ns := N', qualname := q, hasDict := true, slotNames := sn, subclasses := sub, abstract := ab, collection := col, hasDel := false } := by unfold PySem.W.clsIn; rw [hC] <;> rfl
  have hvis : Vis X.env.scope ar.arg := .inl (by rw [eV]; exact hl0)
  obtain ⟨u0, ru0, hu0⟩ := hlk 0 ar.arg _ h0 hσ hvis
  obtain rfl : u0 = Value.ref a := ru0
  have hself : mL ar.arg = some (.ref a) := by
    rcases hu0 with ⟨_, h⟩ | ⟨h, _⟩
    · exact h
    · rw [eV] at h
      have h : scope.names.lookup ar.arg = some .cell ∨ scope.names.lookup ar.arg = some .free := h
      rcases h with h | h <;> (rw [hl0] at h; cases h)
  obtain ⟨t1, hoe⟩ := exo_at I.hok ha
  have hOD := KX _ _ hC
  refine PySem.ks_wpAt_Expr_any ?_ hi hs
  refine PySem.ks_wpAt_MethodCall (pl := pl) ?_ hc
  have key : ∀ {Q' : Value → Shared → Prop}, (∀ so h', h'.get? so = some (PySem.W.ks_superObj C a C) → (∀ b o, s1.heap.get? b = some o → h'.get? b = some o) → Q' (.ref so) { s1 with heap := h' }) →
      _root_.PySem.wpAt (model X.prog X.w) X.A (.func body X.env) (attributeBase (.Call (.Name "super" p0) [] [] p1) "__init__" X.env (eval (.Call (.Name "super" p0) [] [] p1) X.env)) Q' X.xe s1 := by
    intro Q' hQ
    refine PySem.ks_wpAt_super_base (f := f) (cc := cda) (ar := ar) (by rw [eV]; exact S.sup) (by rw [eV]; exact S.cls) (by decide) (by rw [eV]) (KX _ _ lk) rfl (by rw [efd]; exact hp) (by rw [eV]) (KX _ _ hcda) rfl hu2 hfile F.top ?_
    obtain ⟨mb, b1, b2⟩ := I.mod.blt
    refine PySem.W.ks_loadName_global (by rw [eV]; exact S.kind) (by rw [eV]; exact S.sup) (Calls.loadGlobal_builtin (by rw [I.ok.glob]; exact I.mod.glob.keeps I.bk) F.mg (by rw [I.ok.blt]; exact b1.keeps I.bk) ((b2 _ (by decide)).trans boot_super) ⟨rfl, ?_⟩)
    refine wpAny_loadName_free (by rw [eV]; exact S.kind) (by rw [eV]; exact S.cls) (c := cc) (by rw [eV]; show List.lookup _ _ = _; rw [List.lookup_cons]; rfl) ⟨_, KX _ _ hcc, rfl⟩ ?_
    refine wpAny_loadName_local (by rw [eV]; exact S.kind) (by rw [eV]; exact hl0) hns hself ?_
    obtain ⟨hh, gg, dr, tt, oo⟩ := s1
    refine PySem.ks_wpAny_isType_cls hOD rfl ⟨rfl, ?_⟩
    refine PySem.ks_wpAny_call_super hOD rfl hoe rfl (fun c z => by cases z) (PySem.W.looks_mroIn KX F.mro) (fun h' e1 k => hQ _ h' e1 k)
  refine key fun so h' hso k => ?_
  have I1 : Inv X pins σ H1 { s1 with heap := h' } := I.kept (t' := s1.toks) k
  obtain ⟨hh, gg, dr, tt, oo⟩ := s1
  have KX1 : X.K.In h' := I1.kIn
  obtain ⟨t2, hoe2⟩ := exo_at I1.hok ha
  have LT : PySem.W.Looks (model X.prog X.w) h' (typeOf (.ref a)) (.ref C) := fun A Q E s k q => wpAny_typeOf_ref (k _ _ hoe2) q
  have haC : a ≠ C := fun z => by
    have e1 := KX1 _ _ hC
    rw [← z] at e1
    have e2 : h'.get? a = some _ := hoe2
    rw [e2] at e1
    cases e1
  refine PySem.W.kxs_getMethod PySem.W.kxs_ValueError hso (PySem.W.looks_opaque KX1 F.any) (l₀ := .ref C :: bm) (fun A Q E s k q => wpAny_bind ((PySem.W.looks_clsIn KX1 hcl) A _ E s k (wpAny_pure q))) rfl KX1 ?_ (LT.andThen (PySem.W.looks_subIn KX1 F.ve)) haC (by decide) ?_
  · have hsup := F.sup
    unfold PySem.W.ks_superIn at hsup
    rw [hcl] at hsup
    exact hsup
  have I2 : Inv X pins σ H1 ⟨h'.push (PySem.W.kxs_mw "ValueError.__init__" a), gg, dr, tt + 1, oo⟩ := I1.kept (t' := tt + 1) fun b o e => Heap.get?_push_of_some _ e
  have hmw : (h'.push (PySem.W.kxs_mw "ValueError.__init__" a)).get? h'.objs.size = some (PySem.W.kxs_mw "ValueError.__init__" a) := Heap.get?_push_at rfl rfl
  have hsb : ∃ o, h'.objs.size = o := ⟨_, rfl⟩
  show wpAny _ _ (callWith p3 (.ref h'.objs.size) [] (backTo p3 (starEach (e :: es) X.env)) []) _ _ _
  have he2 := he
  refine PySem.W.kxs_callWith (i := "ValueError.__init__") (x := a) ?_ ?_
  · rw [he]
    show (false || (backTo p3 (starEach es X.env)).any (·.1)) = false
    rw [hpl]
    rfl
  · have hpin : ∃ pins2 : List (Addr × Obj), pins2 = pins ++ [(h'.objs.size, PySem.W.kxs_mw "ValueError.__init__" a)] := ⟨_, rfl⟩
    have I3 : Inv X (pins ++ [(h'.objs.size, PySem.W.kxs_mw "ValueError.__init__" a)]) σ H1 ⟨h'.push (PySem.W.kxs_mw "ValueError.__init__" a), gg, dr, tt + 1, oo⟩ := I2.pins_of fun p hp => by
      rcases List.mem_append.mp hp with hp | hp
      · exact I2.pin p (List.mem_append_right _ hp)
      · rw [List.mem_singleton.mp hp]
        refine ⟨hmw, I1.hok.fresh (Nat.le_refl _), Nat.ne_of_gt I1.lt, I1.nofs (Nat.le_refl _), fun v z => by cases z⟩
    have run := pa.run p3 (pins ++ [(h'.objs.size, PySem.W.kxs_mw "ValueError.__init__" a)]) ⟨h'.push (PySem.W.kxs_mw "ValueError.__init__" a), gg, dr, tt + 1, oo⟩ σ H1 _ I3 hw
    rw [he] at run ⊢
    refine evalArgs_plain (thn run fun us2 s3 ⟨vs2, H2, I4, r4, ha4, hl4, q4⟩ => ⟨?_, ?_⟩)
    · exact (I4.pin (h'.objs.size, PySem.W.kxs_mw "ValueError.__init__" a) (List.mem_append_right _ (by simp))).1
    · have hu4 := (I4.pin (h'.objs.size, PySem.W.kxs_mw "ValueError.__init__" a) (List.mem_append_right _ (by simp))).1
      obtain ⟨t4, hoe4⟩ := exo_at I4.hok ha4
      obtain ⟨h4, g4, d4, t4', o4⟩ := s3
      refine call_mw (I4.kIn _ _ hC) hoe4 hu4 (by show us2.length ≤ sizeLine; rw [← r4.length, sizeLine_eq]; omega) fun h5 t5 k5 he5 => ?_
      have I5 : Inv X (pins ++ [(h'.objs.size, PySem.W.kxs_mw "ValueError.__init__" a)]) σ (upd H2 a (exo a C none)) ⟨h5, g4, d4, t4', o4⟩ := I4.write (t' := t4') (x := a) (e := a) (o := exo a C none) (by rw [ha4]; exact True.intro) (.inl rfl) k5 ⟨_, he5⟩ (exo_ok he5)
      have eu : upd H2 a (exo a C none) = H2 := by
        funext b
        by_cases hb : b = a
        · rw [hb, upd_same, ha4]
        · rw [upd_ne hb]
      rw [eu] at I5
      exact q4 _ I5.unpinned
end
end VL
set_option Elab.async false
set_option linter.all false
set_option autoImplicit false
set_option maxRecDepth 100000
set_option maxHeartbeats 4000000
/-! VL14: raise of own exceptions. -/
namespace VL
open PySem PySem.Spec PySem.Calls L2
open PyProof.Rows hiding St

/-- what such an __init__ promises: of the arguments' data, the fields -/
def spX (K : PySem.W.Frag) (n : Nat) (C : Addr) (ok : List D → (List (Str × D) → Prop) → Prop) : Sp := fun vs H Q _ => ∃ Z a ws ds R, vs = .ref a :: ws ∧ ws.length = n ∧ H a = some (exo a C none) ∧ Z a = none ∧ Same Z H ∧ Rzs K Z ds ws ∧ ok ds R ∧
  ∀ Z2 H2 d fs fs', Same Z2 H2 → Same Z Z2 → (∀ b, Z2 b ≠ none → Z b ≠ none ∨ H b = none) → (∀ b o, b ≠ a → H b = some o → H2 b = some o) → H2 a = some (exo a C (some d)) → H2 d = some (exd d fs') → H d = none → Z2 d = none → Z2 a = none →
    fs'.map (·.1) = fs.map (·.1) → Rzs K Z2 (fs.map (·.2)) (fs'.map (·.2)) → R fs → Q .non H2
/-- the arguments of super().__init__, then self.f = e -/
def okX (N : List Str) (g : MA) (f : Str) (me : ME) : List D → (List (Str × D) → Prop) → Prop := fun ds R => g (none :: (ds.map fun d => some (T.frz d)) ++ List.replicate (N.length - (ds.length + 1)) none) (fun ts Γ1 => me Γ1 (fun t _ => R [(f, t.toD)]) noX) noX
theorem rsl_frz {K : PySem.W.Frag} {Z H : Hp} (n : Nat) : ∀ {ds : List D} {vs : List V}, Rzs K Z ds vs → Rsl K Z H ((ds.map fun d => some (T.frz d)) ++ List.replicate n none) (vs.map some ++ List.replicate n none) []
  | [], [], .nil => by
    have key : ∀ n, Rsl K Z H (List.replicate n none) (List.replicate n none) [] := fun n => by
      induction n with
      | zero => exact .nil
      | succ n ih => exact .gap ih
    exact key n
  | d :: ds, v :: vs, .cons h r => by
    have ih : Rsl K Z H ((ds.map fun d => some (T.frz d)) ++ List.replicate n none) (vs.map some ++ List.replicate n none) [] := rsl_frz n r
    exact Rsl.has (F := []) (G := []) (.frz h) ih (fun x hx => absurd hx (by simp))
section
variable {CX : CXT} {P : Program} {w : World} {K : PySem.W.Frag} {mg : Str → Option Value} {base : Heap} {N ps : List Str} {qual : Str} {params : Arguments} {scope : Scope} {f C : Addr} {fd : FuncData} {A : Around} {outer : List Env} {s : Shared} {H : Hp} {E : XK} {us : List Value} {vs : List V}
theorem fn_sup {k n : Nat} {e ev : Expr} {es : List Expr} {p0 p1 p2 p3 p4 q1 q2 q3 : Pos} {ar : Arg} {a0 : Str} {fld : Str} {g : MA} {me : ME} (S : SupS N ps scope) (F : SupF P K mg qual params (.Expr (.Call (.Attribute (.Call (.Name "super" p0) [] [] p1) "__init__" p2) (e :: es) [] p3) p4 :: [.Assign [.Attribute (.Name a0 q1) fld q2] ev q3]) scope C f fd)
    (hp : (params.posonlyargs ++ params.args).head? = some ar) (har : ar.arg = a0) (h0 : N[0]? = some a0) (hl0 : scope.names.lookup a0 = some .local) (hnp : ps.length = n + 1) (hno : PySem.W.findIn K (.ref C) fld = some none)
    {pl : Addr → Addr → Addr → Sem Bool}
    (body : ∀ (cda cc : Addr) (A : Around) (outer : List Env) (s : Shared) (H : Hp) (E : XK), VA (cxS CX P w K mg base N qual scope f cda cc A outer s H E) noW (e :: es) g ∧ VE (cxS CX P w K mg base N qual scope f cda cc A outer s H E) noW ev me)
    (hd : (a0 == ("__debug__" : Str)) = false := by decide) (hcd : (a0 == ("__classdict__" : Str)) = false := by decide) (hes : es.length < 1000 := by decide)
    (tx1 : ∀ (L cda cc : Addr), starEach (e :: es) (sEnv qual scope L f cda cc) = (false, eval e (sEnv qual scope L f cda cc)) :: starEach es (sEnv qual scope L f cda cc) := by intros; rfl)
    (tx2 : ∀ (L cda cc : Addr), (backTo p3 (starEach es (sEnv qual scope L f cda cc))).any (·.1) = false := by intros; rfl) (tx3 : ∀ (L cda cc : Addr), interactive (sEnv qual scope L f cda cc) = false := by intros; rfl)
    (tx4 : ∀ (L cda cc : Addr), swapsWith (.Call (.Attribute (.Call (.Name "super" p0) [] [] p1) "__init__" p2) (e :: es) [] p3) none p4.line (sEnv qual scope L f cda cc) = pure false := by intros; rfl)
    (tx5 : ∀ (L cda cc : Addr), swapsWith ev (some (.Attribute (.Name a0 q1) fld q2)) q3.line (sEnv qual scope L f cda cc) = pure false := by intros; rfl)
    (tx6 : ∀ (L cda cc : Addr), eval (.Call (.Attribute (.Call (.Name "super" p0) [] [] p1) "__init__" p2) (e :: es) [] p3) (sEnv qual scope L f cda cc) = (do
        let ov ← attributeBase (.Call (.Name "super" p0) [] [] p1) "__init__" (sEnv qual scope L f cda cc) (eval (.Call (.Name "super" p0) [] [] p1) (sEnv qual scope L f cda cc))
        standAt p2.atName
        let (fn, first) ← holding [ov] (getMethod ov "__init__" (pl L cda cc))
        callWith p3 fn first (backTo p3 (starEach (e :: es) (sEnv qual scope L f cda cc))) []) := by intros; rfl) :
    FnOk P w K mg base CX (k + 1) f fd ps (spX K n C (okX N g fld me)) := by
  subst har
  refine ⟨fun vs H Q E h => ?_, fun A outer s H args us vs Q E hr e0 hb r hsp => ?_⟩
  · obtain ⟨Z, a, ws, ds, R, rfl, hl, _⟩ := h
    rw [List.length_cons, hl, hnp]
  · obtain ⟨oc, od, dV, kV, doc, pm, an, cda, cc, ct, osl, efd, lk, hcd', hcode, hcell⟩ := F.ex
    have hvl : vs.length = ps.length := by
      obtain ⟨Z, a, ws, ds, R, rfl, hl, _⟩ := id hsp
      rw [List.length_cons, hl, hnp]
    have KX : K.In s.heap := e0.mod.kin.keeps fun b o e => (e0.bs b o e).1
    have lim : s.heap.NoLimit := e0.mod.nolimit.keeps fun b o e => (e0.bs b o e).1
    refine ks_codeAny_call_defAt (body := .Expr (.Call (.Attribute (.Call (.Name "super" p0) [] [] p1) "__init__" p2) (e :: es) [] p3) p4 :: [.Assign [.Attribute (.Name ar.arg q1) fld q2] ev q3]) hr.depth (KX _ _ lk) rfl lim (by rw [efd]; exact PySem.W.codeRec_of KX hcd') (by rw [efd]) hb (by rw [efd]; exact S.nocell) (by rw [efd]; exact fun ⟨x, u⟩ hy => S.par x (List.of_mem_zip hy).1) (fun g₁ hns kp => ?_) (by rw [efd]; exact S.co) (by rw [efd]; exact S.gen) (by rw [efd]; exact S.kind)
    have eenv : callEnv fd s.heap.objs.size f = sEnv qual scope s.heap.objs.size f cda cc := by rw [efd] <;> rfl
    rw [eenv]
    have I : Inv (cxS CX P w K mg base N qual scope f cda cc A outer s H E) [] (L2.start N vs) H { s with heap := g₁, toks := s.toks + (ps.zip us).length } := inv_startS S hr.hd e0 hvl r hcell hns kp
    obtain ⟨hva, hve⟩ := body cda cc A outer s H E
    obtain ⟨ta, pa, sa⟩ := hva.ex
    obtain ⟨te, pe, se⟩ := hve.ex
    have t1 := tx1 s.heap.objs.size cda cc
    have t2 := tx2 s.heap.objs.size cda cc
    have t3 := tx3 s.heap.objs.size cda cc
    have t4 := tx4 s.heap.objs.size cda cc
    have t5 := tx5 s.heap.objs.size cda cc
    have t6 := tx6 s.heap.objs.size cda cc
    obtain ⟨Z, a, ws, ds, R, rfl, hl, ha, za, hs, rz, ok, kQ⟩ := hsp
    have σ0 : (L2.start N (.ref a :: ws))[0]? = some (some (.ref a)) := rfl
    have es1 : L2.start N (.ref a :: ws) = some (.ref a) :: (ws.map some ++ List.replicate (N.length - (ds.length + 1)) none) := by
      unfold L2.start
      rw [List.length_cons, rz.length]
      rfl
    have rs : Rsl K Z H (none :: (ds.map fun d => some (T.frz d)) ++ List.replicate (N.length - (ds.length + 1)) none) (L2.start N (.ref a :: ws)) [] := by
      rw [es1]
      exact .gap (rsl_frz _ rz)
    have fin : ∀ (s' : Shared) (H' : Hp), Inv (cxS CX P w K mg base N qual scope f cda cc A outer s H E) [] (L2.start N (.ref a :: ws)) H' s' → Q .non H' → CE outer P w H s Q .none s' := fun s' H' J q => ⟨.non, H', J.os, J.bare, J.base, J.hok, rfl, q⟩
    have step := super_at (X := cxS CX P w K mg base N qual scope f cda cc A outer s H E) (pl := pl s.heap.objs.size cda cc) (p4 := p4) (a := a) (ta := ta)
      (Q := fun fl s' => match fl with
        | .next => _root_.PySem.wpAt (model P w) (A.deeper (sEnv qual scope s.heap.objs.size f cda cc)) (.func (.Expr (.Call (.Attribute (.Call (.Name "super" p0) [] [] p1) "__init__" p2) (e :: es) [] p3) p4 :: [.Assign [.Attribute (.Name ar.arg q1) fld q2] ev q3]) (sEnv qual scope s.heap.objs.size f cda cc)) (execs [.Assign [.Attribute (.Name ar.arg q1) fld q2] ev q3] (sEnv qual scope s.heap.objs.size f cda cc))
            (fun fl s' => CR CX outer P w H s Q E (.ok (.ret (match fl with | .ret v => v | _ => .none))) s') (cxS CX P w K mg base N qual scope f cda cc A outer s H E).xe s'
        | fl => CR CX outer P w H s Q E (.ok (.ret (match fl with | .ret v => v | _ => .none))) s') rfl rfl rfl rfl S F efd lk hcode hcell hp h0 hl0 I σ0 ha pa ?_ t1 t2 t6 t3 t4
    · exact ks_wpAt_execs_cons step
    · refine sa Z H _ _ [] _ noX _ hs rs ok (fun Z0 H1 Γ1 F1 d1 v1 G s0 e0' r0 p1' n1' l1 qq1 => ?_) xok_no
      have h00 : ∀ x ∈ G, Z0 x = none := fun x hx => (p1'.foot x hx).1
      have e1 := ext_frz e0' h00
      have s1 := frzH_below (F := G) s0
      have r1 := frz_slots r0 h00 n1'
      obtain ⟨Z1, hZ1⟩ : ∃ Z1, Z1 = frzH Z0 H1 G := ⟨_, rfl⟩
      rw [← hZ1] at e1 s1 r1
      have ha1 : H1 a = some (exo a C none) := (e1.fr a _ ha (by simp)).1
      have za1 : Z1 a = none := by
        cases z : Z1 a with
        | none => rfl
        | some u =>
          rcases e1.zn a (by rw [z]; simp) with h | h | h
          · exact absurd za h
          · exact absurd h (by simp)
          · rw [ha] at h; cases h
      refine ⟨ha1, by rw [l1, List.length_cons]; omega, fun s2 I2 => wpAt_of_wpAny ?_⟩
      have hvis : Vis (cxS CX P w K mg base N qual scope f cda cc A outer s H E).env.scope ar.arg := .inl hl0
      have ps1 := pss_one (ps_ost (pos := q3) (pe_var (pos := q1) (i := 0) h0 hvis hd hcd) pe t5)
      refine wpAny_mono (ps1.run [] s2 _ H1 { nx := fun _ H' => Q .non H', rt := fun _ _ => False, bk := fun _ _ => False, ct := fun _ _ => False } I2 ?_) (fun fl s' hsp => ?_) fun _ _ z => z
      · refine snd_frz se (R := fun d _ => R [(fld, d)]) s1 r1 qq1 (fun Z2 H2 Γ2 F2 d2 v2 s2' e2 r2 rz2 q2 => ?_) xok_no
        have ha2 : H2 a = some (exo a C none) := (e2.fr a _ ha1 fun q => by
          obtain ⟨_, h⟩ := e1.fr a _ ha (by simp)
          exact h q).1
        have za2 : Z2 a = none := by
          cases z : Z2 a with
          | none => rfl
          | some u =>
            rcases e2.zn a (by rw [z]; simp) with h | h | h
            · exact absurd za1 h
            · exact absurd h (e1.fr a _ ha (by simp)).2
            · rw [ha1] at h; cases h
        have e12 : Ext Z H [] Z2 H2 F2 := e1.trans e2
        refine ⟨_, σ0, a, C, rfl, F.oex, hno, .inl ⟨ha2, fun dx hdx ndx => ?_⟩⟩
        have zdx : Z2 dx = none := s2'.free hdx
        refine kQ Z2 _ dx [(fld, d2)] [(fld, v2)] (fun b o q => ?_) e12.z (fun b h => ?_) (fun b o hb q => ?_) upd_same (by rw [upd_ne ndx, upd_same]) ?_ zdx za2 rfl (.cons rz2 .nil) q2
        · have b1 : b ≠ a := fun z => by rw [z, za2] at q; cases q
          have b2 : b ≠ dx := fun z => by rw [z, zdx] at q; cases q
          rw [upd_ne b1, upd_ne b2]
          exact s2' _ _ q
        · rcases e12.zn b h with h | h | h
          · exact .inl h
          · exact absurd h (by simp)
          · exact .inr h
        · obtain ⟨h1, _⟩ := e12.fr b o q (by simp)
          have b2 : b ≠ dx := fun z => by rw [z, hdx] at h1; cases h1
          rw [upd_ne hb, upd_ne b2]
          exact h1
        · cases z : H dx with
          | none => rfl
          | some o =>
            obtain ⟨h1, _⟩ := e12.fr dx o z (by simp)
            rw [hdx] at h1; cases h1
      · cases fl with
        | next =>
          obtain ⟨σ', H', J, q⟩ := hsp
          exact ⟨.non, H', J.os, J.bare, J.base, J.hok, rfl, q⟩
        | ret u => obtain ⟨_, _, _, _, _, q⟩ := hsp; exact q.elim
        | brk => obtain ⟨_, _, _, q⟩ := hsp; exact q.elim
        | cont => obtain ⟨_, _, _, q⟩ := hsp; exact q.elim
end
/-! ### makers of exceptions -/
abbrev MX := Sl → (Addr → List (Str × D) → Sl → Prop) → XRl → Prop
def SndX (K : PySem.W.Frag) (W : WX) (t : St → Hp → XK → Prop) (m : MX) : Prop :=
  ∀ Z H σ Γ F R XR (Q : XK), Same Z H → Rsl K Z H Γ σ F → m Γ R XR → (∀ Z' H' Γ' F' C d fs, Same Z' H' → Ext Z H F Z' H' F' → Rsl K Z' H' Γ' σ F' → Xd K Z' d fs → R C fs Γ' → Q (.ref C) d H') → XOk K Z H F σ XR W → t σ H Q
structure VMx (X : Cx) (W : WX) (e : Expr) (m : MX) : Prop where
  ex : ∃ t, PMk X e t ∧ SndX X.K W t m
def sRaise (m : MX) : MS := fun Γ M => m Γ (fun C fs Γ' => M.xr C fs Γ') M.xr
theorem vs_raise {X : Cx} {W : WX} {np : Nat} {e : Expr} {m : MX} {pos : Pos} (hc : X.calm = true) (tk : Takes X W) (h : VMx X W e m) : VS X W np (.Raise (some e) none pos) (sRaise m) := by
  obtain ⟨t, pm, sn⟩ := h.ex
  exact ⟨_, ps_raise hc tk pm, fun Z H σ Γ F M E hs rs m k => sn Z H σ Γ F _ M.xr _ hs rs m (fun Z' H' Γ' F' C d fs s1 e1 r1 x1 q1 => k.xr Z' H' σ Γ' F' C d fs s1 e1 r1 rfl x1 q1) k.xok⟩
def mxC (C : Addr) (n : Nat) (ok : List D → (List (Str × D) → Prop) → Prop) (g : MA) : MX := fun Γ R XR => g Γ (fun ts Γ' => ts.length = n ∧ ok (ts.map T.toD) fun fs => R C fs Γ') XR
section
variable {X : Cx} {W : WX} {C fI : Addr} {fd : FuncData} {ps : List Str} {x : Str} {p pos : Pos} {e : Expr} {es : List Expr}
/-- C(e, ..) where the promise is spX -/
theorem vx_mk {k n : Nat} {ok : List D → (List (Str × D) → Prop) → Prop} {g : MA} (TC : OexC X.K C) (iC : PySem.W.findIn X.K (.ref C) "__init__" = some (some (.ref fI))) (tI : PySem.W.typeIn X.K (.ref fI) = some (.type "function"))
    (F1 : FnOk X.prog X.w X.K X.mg X.base (L2.CX X.prog X.w) k fI fd ps (spX X.K n C ok)) (hr : Room (k + 1) X.A) (hb : Binds X.K fd ps []) (hg : Gl X x) (hm : X.mg x = some (.ref C)) (ha : VA X W (e :: es) g) (hes : es.length < 1000 := by decide)
    (hdb : (x == ("__debug__" : Str)) = false := by decide) (he : starEach (e :: es) X.env = (false, eval e X.env) :: starEach es X.env := by rfl) (hpl : (backTo pos (starEach es X.env)).any (·.1) = false := by rfl) : VMx X W (.Call (.Name x p) (e :: es) [] pos) (mxC C n ok g) := by
  obtain ⟨ta, pa, sa⟩ := ha.ex
  refine ⟨_, pmk_oex TC iC tI F1 hr hb (.nil) (passes_call (W := noW) takes0 fun _ _ _ _ z => z) hg hm pa hdb he hpl, fun Z H σ Γ F R XR Q hs rs m kq xk => ?_⟩
  refine sa Z H σ Γ F _ XR _ hs rs m (fun Z0 H1 Γ1 F1 ts v1 G s0 e0 r0 p1 n1 l1 q1 => ?_) xk
  obtain ⟨f1, f2, f3, f4⟩ := frz_args s0 r0 p1 n1
  have e1 := ext_frz e0 fun x hx => (p1.foot x hx).1
  obtain ⟨Z1, hZ1⟩ : ∃ Z1, Z1 = frzH Z0 H1 G := ⟨_, rfl⟩
  rw [← hZ1] at f1 f2 f3 f4 e1
  refine ⟨by rw [l1, List.length_cons]; omega, fun a na => ?_⟩
  have za : Z1 a = none := f2.free na
  refine ⟨Z1, a, v1, ts.map T.toD, _, by rw [List.append_nil], by rw [← f4.length, List.length_map]; exact q1.1, upd_same, za, fun b o z => ?_, f4, q1.2, fun Z2 H2 d fs fs' s2 z12 zn keep e2a e2d hd zd za2 hk rz q2 => ⟨rfl, d, fs', e2a, e2d, ?_, ?_⟩⟩
  · rw [upd_ne (ne_of_none z za)]
    exact f2 b o z
  · by_cases hda : d = a
    · rw [hda]; exact na
    · rw [upd_ne hda] at hd; exact hd
  · have hda : d ≠ a := fun z => by rw [z, upd_same] at hd; cases hd
    have hd1 : H1 d = none := by rw [upd_ne hda] at hd; exact hd
    have zz : Same Z2 (upd Z2 d (.xd fs')) := same_upd zd
    have s3 : Same (upd Z2 d (.xd fs')) (upd (del H2 a) d (.xd fs')) := fun b o q => by
      by_cases hb : b = d
      · rw [hb, upd_same] at q ⊢; exact q
      · rw [upd_ne hb] at q ⊢
        rw [del_ne (ne_of_none q za2)]
        exact s2 b o q
    have e3 : Ext Z1 H1 F1 (upd Z2 d (.xd fs')) (upd (del H2 a) d (.xd fs')) F1 := ⟨z12.trans zz, fun b h => ?_, fun b o h nf => ⟨?_, nf⟩⟩
    · have r3 : Rsl X.K (upd Z2 d (.xd fs')) (upd (del H2 a) d (.xd fs')) Γ1 σ F1 := f3.mono (z12.trans zz) fun y hy => by
        obtain ⟨hz, o, ho⟩ := f3.foot y hy
        have ya : y ≠ a := fun z => by rw [z, na] at ho; cases ho
        have yd : y ≠ d := fun z => by rw [z, hd1] at ho; cases ho
        refine ⟨?_, ?_⟩
        · rw [upd_ne yd]
          cases q : Z2 y with
          | none => rfl
          | some u =>
            rcases zn y (by rw [q]; simp) with h | h
            · exact absurd hz h
            · rw [upd_ne ya, ho] at h; cases h
        · rw [upd_ne yd, del_ne ya, ho]
          exact keep y o ya (by rw [upd_ne ya]; exact ho)
      exact kq _ _ Γ1 F1 C (some d) fs s3 (e1.trans e3) r3 (.dct upd_same hk (rz.mono zz)) q2
    · by_cases hbd : b = d
      · rw [hbd]; exact .inr (.inr hd1)
      rw [upd_ne hbd] at h
      rcases zn b h with h | h
      · exact .inl h
      · by_cases hb : b = a
        · rw [hb]; exact .inr (.inr na)
        · rw [upd_ne hb] at h; exact .inr (.inr h)
    · have ba : b ≠ a := fun z => by rw [z, na] at h; cases h
      have bd : b ≠ d := fun z => by rw [z, hd1] at h; cases h
      rw [upd_ne bd, del_ne ba]
      exact keep b o ba (by rw [upd_ne ba]; exact h)
end
end VL
set_option Elab.async false
set_option linter.all false
set_option autoImplicit false
set_option maxRecDepth 100000
set_option maxHeartbeats 4000000
/-! VL15: try, except, what a suite asks of its exception; isinstance. -/
namespace VL
open PySem PySem.Spec PySem.Calls L2
open PyProof.Rows hiding St

def canS (K : PySem.W.Frag) (np : Nat) (W : WX) (m : MS) : TS := fun E σ H => ∃ Z Γ F M, Same Z H ∧ Rsl K Z H Γ σ F ∧ m Γ M ∧ EOk K np Z H F σ M W E
theorem VSs.can {X : Cx} {W : WX} {np : Nat} {st : List Stmt} {m : MS} (h : VSs X W np st m) : PSs X st (canS X.K np W m) := by
  obtain ⟨t, pe, sn⟩ := h.ex
  exact ⟨fun pins s σ H E I ⟨Z, Γ, F, M, hs, rs, hm, k⟩ => pe.run pins s σ H E I (sn Z H σ Γ F M E hs rs hm k)⟩
theorem xd_exc {K : PySem.W.Frag} {Z : Hp} {d : Option Addr} {fs : List (Str × D)} (x : Xd K Z d fs) (a C : Addr) : Rz K Z (.exc a C d fs) (.ref a) := by
  cases x with
  | non => exact .exc0
  | dct h1 h2 h3 => exact .excd h1 h2 h3
/-- the suite of a caught exception: at a, of the class at C, its dict d -/
abbrev MU := Addr → Addr → Option Addr → MS
structure VSu (X : Cx) (np : Nat) (st : List Stmt) (m : MU) : Prop where
  run : ∀ (a C : Addr) (oe : Obj) (d : Option Addr) (pn : List (Addr × Obj)), Zc (.ref C) d oe → (∃ vs, oe.data = .fields vs) → VSs (X.suite a ((a, oe) :: pn)) noW np st (m a C d)
def suC (K : PySem.W.Frag) (np : Nat) (m : MU) : Addr → Value → Option Addr → TS := fun a cls d E σ H => ∃ C, cls = .ref C ∧ canS K np noW (m a C d) E σ H
theorem VSu.can {X : Cx} {np : Nat} {st : List Stmt} {m : MU} (h : VSu X np st m) (a : Addr) (oe : Obj) (cls : Value) (d : Option Addr) (pn : List (Addr × Obj)) (hz : Zc cls d oe) (hf : ∃ vs, oe.data = .fields vs) : PSs (X.suite a ((a, oe) :: pn)) st (suC X.K np m a cls d) :=
  ⟨fun pins s σ H E I ⟨C, ec, q⟩ => by
    subst ec
    exact (h.run a C oe d pn hz hf).can.run pins s σ H E I q⟩
def sTryAs (K : PySem.W.Frag) (c : Value) (i : Nat) (mb : MS) (ms : MU) : MS := fun Γ M => mb Γ { M with xr := fun C fs Γ' => ∃ b, PySem.W.exmOne K (.ref C) c = some b ∧ (b = true → i < Γ'.length ∧ ∀ a d, ms a C d (Γ'.set i (some (.frz (.exc a C d fs)))) { nx := fun Γ2 => M.nx (Γ2.set i none), rt := M.rt, bk := fun Γ2 => M.bk (Γ2.set i none), ct := fun Γ2 => M.ct (Γ2.set i none), xr := noX }) ∧ (b = false → M.xr C fs Γ') }
def sTryOnly (K : PySem.W.Frag) (c : Value) (mb : MS) (ms : MU) : MS := fun Γ M => mb Γ { M with xr := fun C fs Γ' => ∃ b, PySem.W.exmOne K (.ref C) c = some b ∧ (b = true → ∀ a d, ms a C d Γ' { M with xr := noX }) ∧ (b = false → M.xr C fs Γ') }
section
variable {X : Cx} {W : WX} {np : Nat} {x n : Str} {c : Value} {i : Nat} {body suite : List Stmt} {b₀ : Stmt} {q pos pos' : Pos} {mb : MS} {ms : MU}
theorem vs_tryAs (hs : X.stack = X.env :: X.outer) (hf : X.env.frame = some X.env.locals) (hN : X.N.Nodup) (hc : Names X x c) (tk : Takes X W)
    (hb : ∀ (W' : WX) (pn : List (Addr × Obj)) (xe : Value → Shared → Prop), Takes (X.tr pn xe) W' → PassesOwn (model X.prog X.w) X.A X.env xe → VSs (X.tr pn xe) W' np body mb) (hsu : VSu X np (b₀ :: suite) ms)
    (hp : np ≤ i := by decide) (hi : X.N[i]? = some n := by rfl) (hln : X.env.kindOf n = some .local := by rfl) : VS X W np (.Try body [.ExceptHandler (some (.Name x q)) (some n) (b₀ :: suite) pos'] [] [] pos) (sTryAs X.K c i mb ms) := by
  refine ⟨_, ps_try_as hs hf hN hi hln hc tk (tb := fun W' => canS X.K np W' mb) (fun W' pn xe t p => (hb W' pn xe t p).can) hsu.can, fun Z H σ Γ F M E hsame rs m k => ⟨Z, Γ, F, _, hsame, rs, m, k.nx, k.bk, k.ct, k.rt, ?_⟩⟩
  intro Z' H' σ' Γ' F' C d fs s1 e1 r1 p1 x1 ⟨b, hb1, hy, hn⟩
  refine ⟨b, hb1, fun eb a na => ?_, fun eb => k.xr Z' H' σ' Γ' F' C d fs s1 e1 r1 p1 x1 (hn eb)⟩
  obtain ⟨hl, q⟩ := hy eb
  obtain ⟨F2, r2, sub⟩ := r1.put hl (.frz (xd_exc x1 a C)) (fun x hx => absurd hx (by simp))
  have sub' : ∀ x ∈ F2, x ∈ F' := fun x hx => (sub x hx).elim (fun h => h) fun h => absurd h (by simp)
  refine ⟨C, rfl, Z', _, F2, _, s1, r2, q a d, ?_, ?_, ?_, ?_, ?_⟩
  · intro Z2 H2 σ2 Γ2 F3 s2 e2 r3 p3 q3
    obtain ⟨F4, r4, sub4⟩ := rsl_setn r3 i none
    exact k.nx Z2 H2 _ _ F4 s2 ((e1.sub sub').trans (e2.sub sub4)) r4 ((take_set hp).trans ((p3.trans (take_set hp)).trans p1)) q3
  · intro Z2 H2 σ2 Γ2 F3 s2 e2 r3 p3 q3
    obtain ⟨F4, r4, sub4⟩ := rsl_setn r3 i none
    exact k.bk Z2 H2 _ _ F4 s2 ((e1.sub sub').trans (e2.sub sub4)) r4 ((take_set hp).trans ((p3.trans (take_set hp)).trans p1)) q3
  · intro Z2 H2 σ2 Γ2 F3 s2 e2 r3 p3 q3
    obtain ⟨F4, r4, sub4⟩ := rsl_setn r3 i none
    exact k.ct Z2 H2 _ _ F4 s2 ((e1.sub sub').trans (e2.sub sub4)) r4 ((take_set hp).trans ((p3.trans (take_set hp)).trans p1)) q3
  · intro Z2 H2 σ2 Γ2 F3 r v G s2 e2 r3 rv n3 p3 q3
    exact k.rt Z2 H2 σ2 Γ2 F3 r v G s2 ((e1.sub sub').trans e2) r3 rv n3 ((p3.trans (take_set hp)).trans p1) q3
  · intro Z2 H2 σ2 Γ2 F3 C2 d2 fs2 s2 e2 r3 p3 x3 q3
    exact q3.elim
theorem vs_tryOnly (hs : X.stack = X.env :: X.outer) (hf : X.env.frame = some X.env.locals) (hc : Names X x c) (tk : Takes X W)
    (hb : ∀ (W' : WX) (pn : List (Addr × Obj)) (xe : Value → Shared → Prop), Takes (X.tr pn xe) W' → PassesOwn (model X.prog X.w) X.A X.env xe → VSs (X.tr pn xe) W' np body mb) (hsu : VSu X np (b₀ :: suite) ms) :
    VS X W np (.Try body [.ExceptHandler (some (.Name x q)) none (b₀ :: suite) pos'] [] [] pos) (sTryOnly X.K c mb ms) := by
  refine ⟨_, ps_try_only hs hf hc tk (tb := fun W' => canS X.K np W' mb) (fun W' pn xe t p => (hb W' pn xe t p).can) hsu.can, fun Z H σ Γ F M E hsame rs m k => ⟨Z, Γ, F, _, hsame, rs, m, k.nx, k.bk, k.ct, k.rt, ?_⟩⟩
  intro Z' H' σ' Γ' F' C d fs s1 e1 r1 p1 x1 ⟨b, hb1, hy, hn⟩
  refine ⟨b, hb1, fun eb a na => ?_, fun eb => k.xr Z' H' σ' Γ' F' C d fs s1 e1 r1 p1 x1 (hn eb)⟩
  exact ⟨C, rfl, Z', Γ', F', _, s1, r1, hy eb a d, fun Z2 H2 σ2 Γ2 F3 s2 e2 r3 p3 q3 => k.nx Z2 H2 σ2 Γ2 F3 s2 (e1.trans e2) r3 (p3.trans p1) q3, fun Z2 H2 σ2 Γ2 F3 s2 e2 r3 p3 q3 => k.bk Z2 H2 σ2 Γ2 F3 s2 (e1.trans e2) r3 (p3.trans p1) q3,
    fun Z2 H2 σ2 Γ2 F3 s2 e2 r3 p3 q3 => k.ct Z2 H2 σ2 Γ2 F3 s2 (e1.trans e2) r3 (p3.trans p1) q3, fun Z2 H2 σ2 Γ2 F3 r v G s2 e2 r3 rv n3 p3 q3 => k.rt Z2 H2 σ2 Γ2 F3 r v G s2 (e1.trans e2) r3 rv n3 (p3.trans p1) q3, fun _ _ _ _ _ _ _ _ _ _ _ _ _ q => q.elim⟩
end
/-! ### in the suite -/
def mXf (K : PySem.W.Frag) (i : Nat) (f : Str) (C : Addr) : ME := fun Γ R _ => ∃ a d fs dv, Γ[i]? = some (some (.frz (.exc a C d fs))) ∧ XfC K C ∧ PySem.W.findIn K (.ref C) f = some none ∧ fs.lookup f = some dv ∧ R (.frz dv) Γ
def mXi (K : PySem.W.Frag) (i : Nat) (C : Addr) (b : Bool) : ME := fun Γ R _ => (∃ a d fs, Γ[i]? = some (some (.frz (.exc a C d fs)))) ∧ R (.frz (.bl b)) Γ
section
variable {X : Cx} {W : WX} {a C : Addr} {oe : Obj} {d : Option Addr} {pn : List (Addr × Obj)}
theorem exc_at {K : PySem.W.Frag} {Z H : Hp} {a C : Addr} {d : Option Addr} {fs : List (Str × D)} {v : V} {G : List Addr} (r : Rp K Z H (.frz (.exc a C d fs)) v G) : v = .ref a ∧ Xd K Z d fs := by
  cases r with
  | frz rz =>
    cases rz with
    | exc0 => exact ⟨rfl, .non⟩
    | excd h1 h2 h3 => exact ⟨rfl, .dct h1 h2 h3⟩
/-- e.f -/
theorem ve_xf (i : Nat) {x f : Str} {px pos : Pos} (hz : Zc (.ref C) d oe) (hf : ∃ vs, oe.data = .fields vs) (hXf : XfC X.K C) (hno : PySem.W.findIn X.K (.ref C) f = some none)
    (hN : X.N[i]? = some x := by rfl) (hv : Vis X.env.scope x := by first | exact Or.inl rfl | exact Or.inr (Or.inl rfl) | exact Or.inr (Or.inr rfl)) (hd : (x == ("__debug__" : Str)) = false := by decide) (hcd : (x == ("__classdict__" : Str)) = false := by decide)
    (hb : attributeBase (.Name x px) f X.env (eval (.Name x px) X.env) = eval (.Name x px) X.env := by rfl) : VE (X.suite a ((a, oe) :: pn)) W (.Attribute (.Name x px) f pos) (fun Γ R _ => ∃ fs dv, Γ[i]? = some (some (.frz (.exc a C d fs))) ∧ fs.lookup f = some dv ∧ R (.frz dv) Γ) := by
  refine ⟨_, pe_xf hXf hno hz hf (pe_var (X := X.suite a ((a, oe) :: pn)) hN hv hd hcd) hb, fun Z H σ Γ F R XR Q hs rs m k xk => ?_⟩
  obtain ⟨fs, dv, et, hl, q⟩ := m
  obtain ⟨v, G, ev, rp, _⟩ := rs.at et
  obtain ⟨e1, xd⟩ := exc_at rp
  subst e1
  cases xd with
  | non => simp at hl
  | @dct dd _ fs' h1 h2 h3 =>
    obtain ⟨w, hw, rw'⟩ := Rzs.lookup h2 h3 hl
    exact ⟨_, ev, rfl, rfl, dd, fs', w, rfl, hs _ _ h1, hw, k.pure hs rs rw' q⟩
/-- isinstance(e, c) -/
def rIsD (K : PySem.W.Frag) (C a : Addr) (d : Option Addr) : List V → Hp → VK → Prop := fun xs H Q => ∃ (c : V) (cv : Value) (b : Bool), xs = [.ref a, c] ∧ ClsV c cv ∧ (∀ dd, d = some dd → ∃ fs, H dd = some (.xd fs)) ∧ PySem.W.kitOne K (.ref C) cv = some b ∧ Q (.bl b) H
theorem call_isD (E : ExcC X.K C) (hz : Zc (.ref C) d oe) (hf : ∃ vs, oe.data = .fields vs) : CallR (X.suite a ((a, oe) :: pn)) (.builtin "isinstance") (rIsD X.K C a d) := by
  intro pins s σ H xs us Q I r h
  obtain ⟨c, cv, b, rfl, hcv, hdd, e, q⟩ := h
  cases r with
  | cons rx rr =>
    cases rr with
    | cons rt rr =>
      cases rr
      cases rx
      have ec := hcv.eq rt
      subst ec
      obtain ⟨hget, _⟩ := I.pin (a, oe) (List.mem_append.mpr (.inl List.mem_cons_self))
      obtain ⟨us, hv⟩ := hf
      have hcl : (PySem.W.clsIn X.K C).isSome = true := by
        obtain ⟨cd, h1, _⟩ := PySem.W.any_some E.hd
        rw [h1] <;> rfl
      have key : ∃ od, PySem.W.InstAt s.heap a oe C od := by
        cases d with
        | none =>
          refine ⟨none, hget, hz.1, ?_, ?_⟩
          · unfold PySem.W.notCls; rw [hv] <;> rfl
          · rw [hz.2]; trivial
        | some dd =>
          obtain ⟨fs, ea⟩ := hdd dd rfl
          have hx : ObjOk X.prog X.w H s.heap dd (.xd fs) := I.hok dd _ ea
          obtain ⟨mA, hns, hr⟩ := hx
          obtain ⟨od, ho, hl⟩ := lookIn_ns hns
          exact ⟨some od, hget, hz.1, by unfold PySem.W.notCls; rw [hv] <;> rfl, by rw [hz.2]; exact ho⟩
      obtain ⟨od, J⟩ := key
      exact PySem.W.kia_one (PySem.W.kitx_exc hcl E.hg E.hk E.hs E.ha E.hn E.ht E.hm) I.kIn J e (fun z => nomatch z) fun tk => ⟨.bl b, H, I.kept (t' := tk) fun _ _ z => z, rfl, q⟩
theorem ve_xi (i : Nat) {x : Str} {px p pos : Pos} {c : V} {cv : Value} {b : Bool} {ce : Expr} (E : ExcC X.K C) (hz : Zc (.ref C) d oe) (hf : ∃ vs, oe.data = .fields vs) (hc : PE (X.suite a ((a, oe) :: pn)) ce (tC c)) (hcv : ClsV c cv) (hk : PySem.W.kitOne X.K (.ref C) cv = some b) (hg : Gl X "isinstance") (hm : X.mg "isinstance" = none)
    (hN : X.N[i]? = some x := by rfl) (hv : Vis X.env.scope x := by first | exact Or.inl rfl | exact Or.inr (Or.inl rfl) | exact Or.inr (Or.inr rfl)) (hd : (x == ("__debug__" : Str)) = false := by decide) (hcd : (x == ("__classdict__" : Str)) = false := by decide)
    (hs1 : starEach [.Name x px, ce] X.env = (false, eval (.Name x px) X.env) :: starEach [ce] X.env := by rfl) (hs2 : starEach [ce] X.env = (false, eval ce X.env) :: starEach [] X.env := by rfl) (hpl : (backTo pos (starEach [ce] X.env)).any (·.1) = false := by rfl) (hbt : bootBuiltins ("isinstance" : Str) = some (.builtin "isinstance") := by first | exact PyProof.Rows.boot_isinstance | kernel_rfl) :
    VE (X.suite a ((a, oe) :: pn)) W (.Call (.Name "isinstance" p) [.Name x px, ce] [] pos) (fun Γ R _ => (∃ fs, Γ[i]? = some (some (.frz (.exc a C d fs)))) ∧ R (.frz (.bl b)) Γ) := by
  refine ⟨_, pe_callB (X := X.suite a ((a, oe) :: pn)) (call_isD E hz hf) hg hm hbt (pa_cons (pe_var (X := X.suite a ((a, oe) :: pn)) hN hv hd hcd) (pa_cons hc pa_nil hs2) hs1) (by decide) (by decide) hs1 hpl, fun Z H σ Γ F R XR Q hs rs m k xk => ?_⟩
  obtain ⟨⟨fs, et⟩, q⟩ := m
  obtain ⟨v, G, ev, rp, _⟩ := rs.at et
  obtain ⟨e1, xd⟩ := exc_at rp
  subst e1
  refine ⟨_, ev, c, cv, b, rfl, hcv, fun dd ed => ?_, hk, k.pure hs rs (.bl b) q⟩
  subst ed
  cases xd with
  | dct h1 h2 h3 => exact ⟨_, hs _ _ h1⟩
end
end VL
set_option Elab.async false
set_option linter.all false
set_option autoImplicit false
set_option maxRecDepth 100000
set_option maxHeartbeats 4000000
/-! VL16: answers frozen, own ==, repr compared, dict displays, isinstance of instances. -/
namespace VL
open PySem PySem.Spec PySem.Calls L2
open PyProof.Rows hiding St

section
variable {X : Cx} {W : WX}
/-! ### an answer frozen -/
def mFrz (m : ME) : ME := fun Γ R XR => m Γ (fun t Γ' => R (.frz t.toD) Γ') XR
theorem ve_frz {e : Expr} {m : ME} (h : VE X W e m) : VE X W e (mFrz m) := by
  obtain ⟨t, pe, sn⟩ := h.ex
  exact ⟨_, pe, fun Z H σ Γ F R XR Q hs rs m k x => snd_frz sn (R := fun d Γ' => R (.frz d) Γ') hs rs m (fun Z' H' Γ' F' d v s1 e1 r1 rz q => (k.step e1).pure s1 r1 rz q) x⟩
theorem VO.fz {e : Expr} {m : ME} (h : VE X W e m) : VO X W e (.ex (mFrz m)) := .ex (ve_frz h)
theorem ve_bltn {x : Str} {d : D} {v : V} {u : Value} {pos : Pos} (hg : Gl X x) (hm : X.mg x = none) (hv : bootBuiltins x = some u) (r : RelV v u) (rz : ∀ Z, Rz X.K Z d v) (hn : x ≠ "__name__" := by decide) (hd : (x == ("__debug__" : Str)) = false := by decide) : VE X W (.Name x pos) (mC d) :=
  ⟨_, pe_bltn hg hm hv r hn hd, snd_c rz⟩
/-! ### == by a class's own def -/
theorem pstep_of {Z H Z' H' : Hp} {F' : List Addr} (hs : Same Z' H') (e : VL.Ext Z H [] Z' H' F') : PStep Z H Z' H' := ⟨e.z, hs, fun a o h => (e.fr a o h (by simp)).1, fun a h => (e.zn a h).elim .inl fun h => h.elim (fun h => absurd h (by simp)) .inr⟩
def oOwn (K : PySem.W.Frag) (Cs : List Addr) (sp : VSp) : D → D → (T → Prop) → Prop := fun d e R => ∃ C fs C' gs, d = .obj C fs ∧ e = .obj C' gs ∧ C ∈ Cs ∧ PySem.W.notFirst K C (.ref C') = true ∧ sp [.frz d, .frz e] (fun r _ => ∃ b, r = .frz (.bl b) ∧ R (.frz (.bl b))) noX
/-- a op b by the def of a's class -/
theorem ov_own {lv : Nat} {g : Addr} {fd : FuncData} {ps : List Str} {sp : VSp} {C : Addr} {op : CmpOp} (hop : ∀ a b, compareOp op a b = richCompare op a b) (F : FnG X.prog X.w X.K X.mg X.base lv g fd ps (lift X.K ps.length sp)) (hr : RoomG lv X.A) (hb : Binds X.K fd ps []) (hp : 2 = ps.length)
    (hcs : PySem.W.findIn X.K (.ref C) (cmpInfo op).2.1 = some (some (.ref g))) (hf : PySem.W.isFn X.K (.ref g) = true) : OpV X (compareOp op) (oOwn X.K [C] sp) := by
  refine ⟨fun x y H Q => ∃ a dx fs b C' dy gs, x = .ref a ∧ y = .ref b ∧ H a = some (.ins C dx fs) ∧ H b = some (.ins C' dy gs) ∧ PySem.W.notFirst X.K C (.ref C') = true ∧ lift X.K ps.length sp [x, y] H (fun v H' => (∃ k, v = .bl k) ∧ Q v H') (fun _ _ _ => False), ?_, ?_⟩
  · intro pins s σ H x y v u Q I rx ry ⟨a, dx, fs, b, C', dy, gs, e1, e2, ha, hb', hn, q⟩
    subst e1; subst e2
    obtain rfl : v = Value.ref a := rx
    obtain rfl : u = Value.ref b := ry
    obtain ⟨mA, J, _⟩ := ins_get I.hok ha
    obtain ⟨mB, J', _⟩ := ins_get I.hok hb'
    obtain ⟨od, J, _⟩ := J.look
    obtain ⟨od', J', _⟩ := J'.look
    obtain ⟨m, hF⟩ := I.fr
    rw [hop]
    refine PySem.W.cmp_K (op := op) (tb := .ref C') hr.room.units0 hF I.ok.mod.kin J J'.type hn hcs hf ?_
    refine wpAny_mono (run_fnG (E := fun _ => fun _ _ _ => False) (us := [.ref a, .ref b]) (vs := [.ref a, .ref b]) F hr hb (fun pn H st e s2 I2 c => passes_call (W := noW) takes0 (fun _ _ _ _ z => z) pn σ H st e s2 I2 c) I (.cons rfl (.cons rfl .nil)) q) (fun r s' z => ?_) fun _ _ x => x
    obtain ⟨z', H', I', rz, ⟨k, ek⟩, qz⟩ := z
    subst ek
    obtain rfl : r = Value.bool k := rz
    exact ⟨.bl k, H', I', rfl, qz⟩
  · intro Z H d v d' v' R Q hs w w' ⟨C2, fs, C', gs, e1, e2, hC, hn, q⟩ k
    subst e1; subst e2
    obtain rfl : C2 = C := by simpa using hC
    cases w with
    | rz r =>
      cases w' with
      | rz r' =>
        cases id r with
        | obj h1 h2 h3 =>
          cases id r' with
          | obj h1' h2' h3' =>
            refine ⟨_, _, _, _, C', _, _, rfl, rfl, hs _ _ h1, hs _ _ h1', hn, ⟨Z, _, [], _, _, hp, hs, .cons (F := []) (G := []) (.frz r) (.cons (F := []) (G := []) (.frz r') .nil (by simp)) (by simp), q, fun Z' H' v r Γ' F' G s' e' rp rr nr ⟨b, eb, qq⟩ => ?_, fun _ _ _ _ _ _ _ _ _ _ _ z => z.elim⟩⟩
            subst eb
            cases rr with
            | frz rz =>
              cases rz
              exact ⟨⟨b, rfl⟩, k Z' H' _ _ [] (pstep_of s' e') (by simp) (.frz (.bl b)) qq⟩
/-! ### repr -/
def rRepr (K : PySem.W.Frag) : List V → Hp → VK → Prop := fun xs H Q => ∃ x p, xs = [x] ∧ Dp K H x p ∧ p.canLay0 = true ∧ p.showable = true ∧ p.depth ≤ 64 ∧ p.shown.length ≤ sizeLine ∧ Q (.str p.shown) H
theorem call_repr (hg : X.A.guards = some []) (hu : X.A.units + 65 < cLine) : CallR X (.builtin "repr") (rRepr X.K) := by
  intro pins s σ H xs us Q I r ⟨x, p, e, hd, hc, hsh, hdp, hl, q⟩
  subst e
  obtain ⟨u, rfl, ru⟩ := r.one
  cases hd with
  | non =>
    obtain rfl : u = Value.none := ru
    exact PySem.P.repr_of_none ⟨.str _, H, I.tok _, ⟨_, rfl⟩, by simpa [PyData.shown] using q⟩
  | bl b =>
    obtain rfl : u = Value.bool b := ru
    exact PySem.P.repr_of_bool ⟨.str _, H, I.tok _, ⟨_, rfl⟩, by simpa [PyData.shown] using q⟩
  | int i =>
    obtain ⟨t, rfl⟩ := ru
    exact PySem.P.repr_of_int (by simpa [PyData.showable] using hsh) ⟨.str _, H, I.tok _, ⟨_, rfl⟩, by simpa [PyData.shown] using q⟩
  | str s0 =>
    obtain ⟨t, rfl⟩ := ru
    exact PySem.P.repr_of_str ⟨.str _, H, I.tok _, ⟨_, rfl⟩, by simpa [PyData.shown] using q⟩ (by simpa [PyData.shown] using hl)
  | @lst a vs ds h1 h2 =>
    obtain ⟨as, rd⟩ := Dp.reads I _ _ _ (Dp.lst h1 h2) ru
    obtain rfl : u = Value.ref a := ru
    exact repr_of_reads' rd hsh (PyData.noDict_hsm (PyData.hasDict_of_canLay _ hc)) hg (by omega) (fun b o h => h) (fun h' u' tk k => ⟨.str _, H, I.kept (t' := tk) k, ⟨_, rfl⟩, q⟩) hl
  | @tup a vs ds h1 h2 =>
    obtain ⟨as, rd⟩ := Dp.reads I _ _ _ (Dp.tup h1 h2) ru
    obtain rfl : u = Value.ref a := ru
    exact repr_of_reads' rd hsh (PyData.noDict_hsm (PyData.hasDict_of_canLay _ hc)) hg (by omega) (fun b o h => h) (fun h' u' tk k => ⟨.str _, H, I.kept (t' := tk) k, ⟨_, rfl⟩, q⟩) hl
def ShOk (p : PyData) : Prop := p.showable = true ∧ p.depth ≤ 64 ∧ (p.canLay0 = true → p.shown.length ≤ sizeLine)
/-- repr(a) == repr(b), repr(a) != repr(b) -/
def mRepr (g : Str → Str → Bool) (ma mb : ME) : ME := fun Γ R XR => ma Γ (fun ta Γ1 => ∃ p, ta.toD.py = some p ∧ ShOk p ∧ mb Γ1 (fun tb Γ2 => ∃ q, tb.toD.py = some q ∧ ShOk q ∧ R (.frz (.bl (g p.shown q.shown))) Γ2) XR) XR
theorem snd_repr {ta tb : TE} {ma mb : ME} {r : R2} {g : Str → Str → Bool} (hr : ∀ x y H Q, Q (.bl (g x y)) H → r (.str x) (.str y) H Q) (sa : Snd X.K W ta ma) (sb : Snd X.K W tb mb) : Snd X.K W (tOp r (tCB (rRepr X.K) (L2.tCons ta L2.tNil)) (tCB (rRepr X.K) (L2.tCons tb L2.tNil))) (mRepr g ma mb) := fun Z H σ Γ F R XR Q hs rs m k x => by
  refine snd_frz sa (R := fun d Γ1 => ∃ p, d.py = some p ∧ ShOk p ∧ mb Γ1 (fun tb Γ2 => ∃ q, tb.toD.py = some q ∧ ShOk q ∧ R (.frz (.bl (g p.shown q.shown))) Γ2) XR) hs rs m (fun Z1 H1 Γ1 F1 d v s1 e1 r1 rz q1 => ?_) x
  obtain ⟨p, hp, ⟨g1, g2, g3⟩, q1⟩ := q1
  obtain ⟨dp, cl⟩ := rz.dp s1 hp
  refine ⟨v, p, rfl, dp, cl, g1, g2, g3 cl, ?_⟩
  refine snd_frz sb (R := fun d Γ2 => ∃ q, d.py = some q ∧ ShOk q ∧ R (.frz (.bl (g p.shown q.shown))) Γ2) s1 r1 q1 (fun Z2 H2 Γ2 F2 d2 v2 s2 e2 r2 rz2 q2 => ?_) (x.step0 e1)
  obtain ⟨p2, hp2, ⟨g4, g5, g6⟩, q2⟩ := q2
  obtain ⟨dp2, cl2⟩ := rz2.dp s2 hp2
  exact ⟨v2, p2, rfl, dp2, cl2, g4, g5, g6 cl2, hr _ _ _ _ ((k.step (e1.trans e2)).pure s2 r2 (.bl _) q2)⟩
theorem rne_str {x y : Str} {H : Hp} {Q : VK} (q : Q (.bl (decide (x ≠ y))) H) : rNe (.str x) (.str y) H Q := by
  refine ⟨rfl, ?_⟩
  have e : (!decide (V.str x = V.str y)) = decide (x ≠ y) := by
    by_cases h : x = y
    · subst h; simp
    · have h' : V.str x ≠ V.str y := fun z => h (V.str.inj z)
      simp [h]
  rw [e]; exact q
theorem req_str {x y : Str} {H : Hp} {Q : VK} (q : Q (.bl (decide (x = y))) H) : rEq (.str x) (.str y) H Q := by
  refine ⟨rfl, ?_⟩
  have e : decide (V.str x = V.str y) = decide (x = y) := by
    by_cases h : x = y
    · subst h; simp
    · have h' : V.str x ≠ V.str y := fun z => h (V.str.inj z)
      simp [h]
  rw [e]; exact q
section
variable {a b : Expr} {ma mb : ME} {p1 p2 p3 p4 pos : Pos}
theorem pe_repr {a : Expr} {ta : TE} {p1 p3 : Pos} (hgd : X.A.guards = some []) (hu : X.A.units + 65 < cLine) (hg : Gl X "repr") (hm : X.mg "repr" = none) (pe : PE X a ta) (hs : starEach [a] X.env = (false, eval a X.env) :: starEach [] X.env) : PE X (.Call (.Name "repr" p1) [a] [] p3) (tCB (rRepr X.K) (L2.tCons ta L2.tNil)) :=
  pe_callB (call_repr hgd hu) hg hm (by kernel_rfl) (pa_cons pe pa_nil hs) (by decide) (by decide) hs rfl
theorem ve_reprNe (hr : RoomG 0 X.A) (hg : Gl X "repr") (hm : X.mg "repr" = none) (ha : VE X W a ma) (hb : VE X W b mb) (hsa : starEach [a] X.env = (false, eval a X.env) :: starEach [] X.env := by rfl) (hsb : starEach [b] X.env = (false, eval b X.env) :: starEach [] X.env := by rfl) :
    VE X W (.Compare (.Call (.Name "repr" p1) [a] [] p2) [.NotEq] [.Call (.Name "repr" p3) [b] [] p4] pos) (mRepr (fun x y => decide (x ≠ y)) ma mb) := by
  obtain ⟨ta, pa, sa⟩ := ha.ex
  obtain ⟨tb, pb, sb⟩ := hb.ex
  have hu : X.A.units + 65 < cLine := by have := hr.room.un; omega
  exact ⟨_, pe_cmpR op_ne (pe_repr hr.gd hu hg hm pa hsa) (pe_repr hr.gd hu hg hm pb hsb) (nomark _), snd_repr (fun _ _ _ _ q => rne_str q) sa sb⟩
theorem ve_reprEq (hr : RoomG 0 X.A) (hg : Gl X "repr") (hm : X.mg "repr" = none) (ha : VE X W a ma) (hb : VE X W b mb) (hsa : starEach [a] X.env = (false, eval a X.env) :: starEach [] X.env := by rfl) (hsb : starEach [b] X.env = (false, eval b X.env) :: starEach [] X.env := by rfl) :
    VE X W (.Compare (.Call (.Name "repr" p1) [a] [] p2) [.Eq] [.Call (.Name "repr" p3) [b] [] p4] pos) (mRepr (fun x y => decide (x = y)) ma mb) := by
  obtain ⟨ta, pa, sa⟩ := ha.ex
  obtain ⟨tb, pb, sb⟩ := hb.ex
  have hu : X.A.units + 65 < cLine := by have := hr.room.un; omega
  exact ⟨_, pe_cmpR op_eq (pe_repr hr.gd hu hg hm pa hsa) (pe_repr hr.gd hu hg hm pb hsb) (nomark _), snd_repr (fun _ _ _ _ q => req_str q) sa sb⟩
theorem vt_reprNe (hr : RoomG 0 X.A) (hg : Gl X "repr") (hm : X.mg "repr" = none) (ha : VE X W a ma) (hb : VE X W b mb) (hsa : starEach [a] X.env = (false, eval a X.env) :: starEach [] X.env := by rfl) (hsb : starEach [b] X.env = (false, eval b X.env) :: starEach [] X.env := by rfl) :
    VT X W (.Compare (.Call (.Name "repr" p1) [a] [] p2) [.NotEq] [.Call (.Name "repr" p3) [b] [] p4] pos) (mTst (mRepr (fun x y => decide (x ≠ y)) ma mb)) := by
  obtain ⟨ta, pa, sa⟩ := ha.ex
  obtain ⟨tb, pb, sb⟩ := hb.ex
  have hu : X.A.units + 65 < cLine := by have := hr.room.un; omega
  exact ⟨_, pt_cmpR op_ne (pe_repr hr.gd hu hg hm pa hsa) (pe_repr hr.gd hu hg hm pb hsb) (nomark _), snd_tst (snd_repr (fun _ _ _ _ q => rne_str q) sa sb)⟩
theorem vt_reprEq (hr : RoomG 0 X.A) (hg : Gl X "repr") (hm : X.mg "repr" = none) (ha : VE X W a ma) (hb : VE X W b mb) (hsa : starEach [a] X.env = (false, eval a X.env) :: starEach [] X.env := by rfl) (hsb : starEach [b] X.env = (false, eval b X.env) :: starEach [] X.env := by rfl) :
    VT X W (.Compare (.Call (.Name "repr" p1) [a] [] p2) [.Eq] [.Call (.Name "repr" p3) [b] [] p4] pos) (mTst (mRepr (fun x y => decide (x = y)) ma mb)) := by
  obtain ⟨ta, pa, sa⟩ := ha.ex
  obtain ⟨tb, pb, sb⟩ := hb.ex
  have hu : X.A.units + 65 < cLine := by have := hr.room.un; omega
  exact ⟨_, pt_cmpR op_eq (pe_repr hr.gd hu hg hm pa hsa) (pe_repr hr.gd hu hg hm pb hsb) (nomark _), snd_tst (snd_repr (fun _ _ _ _ q => req_str q) sa sb)⟩
end
end
end VL
set_option Elab.async false
set_option linter.all false
set_option autoImplicit false
set_option maxRecDepth 100000
set_option maxHeartbeats 4000000
/-! VL17: != by a class's own ==; isinstance of instances; dict displays. -/
namespace VL
open PySem PySem.Spec PySem.Calls L2
open PyProof.Rows hiding St

section
variable {M : Model} {prog : Program} {w : World} {A : Around} {E : Value → Shared → Prop} {s : Shared} {K : PySem.W.Frag} {x C f : Addr} {ox : Obj} {od : Option Obj} {b : Value}
theorem ifB_ne {args : List Value} {Q : Option Value → Shared → Prop} (kin : K.In s.heap) (I : PySem.W.InstAt s.heap x ox C od) (hn : PySem.W.findIn K (.ref C) "__ne__" = some (some (.builtin "object.__ne__")))
    (h : wpAny M A (call (.builtin "object.__ne__") (.ref x :: args)) (fun v => Q (some v)) E s) : wpAny M A (callSpecialIfBound? (.ref x) "__ne__" args) Q E s := by
  unfold callSpecialIfBound? bindSpecialIfBound?
  refine wpAny_holding (wpAny_bind (wpAny_bind (wpAny_bind (I.type.here ((PySem.W.looks_findIn kin hn).here ?_)))))
  refine wpAny_bind (wpAny_askSetting (wpAny_ite ?_))
  have last : wpAny M A (call (.builtin "object.__ne__") ([.ref x] ++ args) >>= fun v => pure (some v)) Q E s := wpAny_bind (wpAny_mono h (fun v s2 z => wpAny_pure z) fun _ _ z => z)
  split
  · exact wpAny_bind (wpAny_of_eq (F.cmp_object.ne.bind _) (wpAny_pure (by exact last)))
  · exact wpAny_tryCatch (wpAny_bind (wpAny_of_eq (F.cmp_object.ne.bind _) (wpAny_pure (by exact last))))
theorem call_ne {Q : Value → Shared → Prop} (kin : K.In s.heap) (I : PySem.W.InstAt s.heap x ox C od) (hm : PySem.W.mroIn K C (.type "object") = some true) (he : PySem.W.findIn K (.ref C) "__eq__" = some (some (.ref f))) (hf : PySem.W.isFn K (.ref f) = true) (hu : A.units + 1 < cLine)
    (h : wpAny (model prog w) A.in1 (call (.ref f) [.ref x, b]) (fun v s2 => ∃ k, v = .bool k ∧ Q (.bool (!k)) s2) E s) : wpAny (model prog w) A (call (.builtin "object.__ne__") [.ref x, b]) Q E s := by
  refine wpAny_call (codeAny_call_builtin F.cmp_object.ne.plain F.cmpEntry_ne (PySem.W.check_slot F.cmpKind_ne F.cmpSplit_ne (I.type.andThen (PySem.W.looks_mroIn kin hm)) (F.cmpArgs_ne _ _) ?_))
  unfold Builtin.«object.__ne__»
  have hu1 : A.in1.units < cLine := hu
  refine wpAny_bind (wpAny_of_eq (a := ((Value.ref x : Value), [b])) (by first | rfl | (simp only [slotArgs]; rfl)) ?_)
  refine wpAny_bind (wpAny_cRoomFor hu1 ?_)
  refine wpAny_bind (PySem.W.ifBound_K kin I he hf (wpAny_mono h (fun v s2 z => ?_) fun _ _ z => z))
  obtain ⟨k, ek, q⟩ := z
  subst ek
  refine wpAny_bind (wpAny_truthy_bool ?_)
  exact wpAny_pure q
theorem rich_ne {tb : Value} {L : Addr} {h₀ : Heap} {m : Str → Option Value} {Q : Value → Shared → Prop} (hu : A.units + 1 < cLine) (G : Fr h₀ L s.heap m) (kin0 : K.In h₀) (I : PySem.W.InstAt s.heap x ox C od) (hb : PySem.W.Looks (model prog w) s.heap (typeOf b) tb) (hn : PySem.W.notFirst K C tb = true)
    (hne : PySem.W.findIn K (.ref C) "__ne__" = some (some (.builtin "object.__ne__"))) (hm : PySem.W.mroIn K C (.type "object") = some true) (he : PySem.W.findIn K (.ref C) "__eq__" = some (some (.ref f))) (hf : PySem.W.isFn K (.ref f) = true)
    (h : wpAny (model prog w) A.in1 (call (.ref f) [.ref x, b]) (fun v s2 => ∃ k, v = .bool k ∧ Q (.bool (!k)) s2) E s) : wpAny (model prog w) A (richCompare .NotEq (.ref x) b) Q E s := by
  have kin := kin0.keeps G.keep
  have one : wpAny (model prog w) A (tryCompare (.ref x) "__ne__" b) (fun r s2 => ∃ k, r = some (.bool k) ∧ Q (.bool k) s2) E s := by
    unfold tryCompare
    refine wpAny_bind (ifB_ne kin I hne (call_ne kin I hm he hf hu (wpAny_mono h (fun v s2 z => ?_) fun _ _ z => z)))
    obtain ⟨k, ek, q⟩ := z
    subst ek
    exact ⟨k, rfl, wpAny_pure ⟨!k, rfl, q⟩⟩
  have hu0 : A.units < cLine := by omega
  unfold richCompare
  simp only [oneThing_ref]
  refine wpAny_holding (wpAny_bind (wpAny_cRoomFor hu0 ?_))
  refine wpAny_bind (I.type.here (wpAny_bind (hb.here ?_)))
  have tail : ∀ {r : Option Value} {s2 : Shared}, (∃ k, r = some (.bool k) ∧ Q (.bool k) s2) → ∃ v, r = some v ∧ Q v s2 := fun ⟨k, e, q⟩ => ⟨_, e, q⟩
  split
  · rename_i q
    have e : PySem.W.subIn K tb (.ref C) = some false := by
      rcases Bool.or_eq_true_iff.mp hn with e | e
      · rw [beq_iff_eq.mp e] at q; simp at q
      · exact beq_iff_eq.mp e
    refine wpAny_bind ((PySem.W.looks_subIn kin e).here ?_)
    rw [if_neg (by decide)]
    refine wpAny_bind (wpAny_mono one (fun r s2 z => ?_) fun _ _ z => z)
    obtain ⟨v, rfl, hq⟩ := tail z
    exact wpAny_pure hq
  · refine wpAny_bind (wpAny_pure ?_)
    rw [if_neg (by decide)]
    refine wpAny_bind (wpAny_mono one (fun r s2 z => ?_) fun _ _ z => z)
    obtain ⟨v, rfl, hq⟩ := tail z
    exact wpAny_pure hq
end
section
variable {X : Cx} {W : WX}
theorem RoomG.in1 {k : Nat} {A : Around} (r : RoomG (k + 1) A) : RoomG k A.in1 := ⟨r.room.in1, r.gd⟩
def oOwnNe (K : PySem.W.Frag) (Cs : List Addr) (sp : VSp) : D → D → (T → Prop) → Prop := fun d e R => ∃ C fs C' gs, d = .obj C fs ∧ e = .obj C' gs ∧ C ∈ Cs ∧ PySem.W.notFirst K C (.ref C') = true ∧ sp [.frz d, .frz e] (fun r _ => ∃ b, r = .frz (.bl b) ∧ R (.frz (.bl (!b)))) noX
theorem ov_ownNe {lv : Nat} {g : Addr} {fd : FuncData} {ps : List Str} {sp : VSp} {C : Addr} (Fg : FnG X.prog X.w X.K X.mg X.base lv g fd ps (lift X.K ps.length sp)) (hr : RoomG (lv + 1) X.A) (hb : Binds X.K fd ps []) (hp : 2 = ps.length)
    (hne : PySem.W.findIn X.K (.ref C) "__ne__" = some (some (.builtin "object.__ne__"))) (hm : PySem.W.mroIn X.K C (.type "object") = some true) (hcs : PySem.W.findIn X.K (.ref C) "__eq__" = some (some (.ref g))) (hf : PySem.W.isFn X.K (.ref g) = true) : OpV X (compareOp .NotEq) (oOwnNe X.K [C] sp) := by
  refine ⟨fun x y H Q => ∃ a dx fs b C' dy gs, x = .ref a ∧ y = .ref b ∧ H a = some (.ins C dx fs) ∧ H b = some (.ins C' dy gs) ∧ PySem.W.notFirst X.K C (.ref C') = true ∧ lift X.K ps.length sp [x, y] H (fun v H' => ∃ k, v = .bl k ∧ Q (.bl (!k)) H') (fun _ _ _ => False), ?_, ?_⟩
  · intro pins s σ H x y v u Q I rx ry ⟨a, dx, fs, b, C', dy, gs, e1, e2, ha, hb', hn, q⟩
    subst e1; subst e2
    obtain rfl : v = Value.ref a := rx
    obtain rfl : u = Value.ref b := ry
    obtain ⟨mA, J, _⟩ := ins_get I.hok ha
    obtain ⟨mB, J', _⟩ := ins_get I.hok hb'
    obtain ⟨od, J, _⟩ := J.look
    obtain ⟨od', J', _⟩ := J'.look
    obtain ⟨m, hF⟩ := I.fr
    show wpAny _ _ (richCompare .NotEq _ _) _ _ _
    refine rich_ne (tb := .ref C') (by have := hr.room.un; omega) hF I.ok.mod.kin J J'.type hn hne hm hcs hf ?_
    have bt := hb s [.ref a, .ref b] I.kIn (by rw [List.append_nil]; exact hp)
    rw [List.append_nil] at bt
    refine wpAny_call (codeAny_mono (Fg.run X.A.in1 X.stack s H ⟨[.ref a, .ref b], []⟩ [.ref a, .ref b] [.ref a, .ref b] _ (fun _ _ _ => False) hr.in1 I.env0.in1 bt (.cons rfl (.cons rfl .nil)) q) fun res s2 hres => ?_)
    cases res with
    | error z => exact passes_call (W := noW) takes0 (fun _ _ _ _ z => z) pins σ H s z s2 I hres
    | ok fl =>
      cases fl with
      | ret r =>
        obtain ⟨z', H', I', rz, k, ek, qz⟩ := I.after hres
        subst ek
        obtain rfl : r = Value.bool k := rz
        exact ⟨k, rfl, .bl (!k), H', I', rfl, qz⟩
      | _ => exact hres.elim
  · intro Z H d v d' v' R Q hs w w' ⟨C2, fs, C', gs, e1, e2, hC, hn, q⟩ k
    subst e1; subst e2
    obtain rfl : C2 = C := by simpa using hC
    cases w with
    | rz r =>
      cases w' with
      | rz r' =>
        cases id r with
        | obj h1 h2 h3 =>
          cases id r' with
          | obj h1' h2' h3' =>
            refine ⟨_, _, _, _, C', _, _, rfl, rfl, hs _ _ h1, hs _ _ h1', hn, ⟨Z, _, [], _, _, hp, hs, .cons (F := []) (G := []) (.frz r) (.cons (F := []) (G := []) (.frz r') .nil (by simp)) (by simp), q, fun Z' H' v r Γ' F' G s' e' rp rr nr ⟨b, eb, qq⟩ => ?_, fun _ _ _ _ _ _ _ _ _ _ _ z => z.elim⟩⟩
            subst eb
            cases rr with
            | frz rz =>
              cases rz
              exact ⟨b, rfl, k Z' H' _ _ [] (pstep_of s' e') (by simp) (.frz (.bl (!b))) qq⟩
/-! ### isinstance of an instance -/
/-- what isinstance asks of the class at C -/
structure InsC (K : PySem.W.Frag) (C : Addr) : Prop where
  cls : Cls K C
  ca : PySem.W.findIn K (.ref C) "__class__" = some (some (.builtin "object.__class__"))
  cn : PySem.W.specialIn K (.builtin "object.__class__") "__get__" = some (some (.builtin "getset_descriptor.__get__"))
  ct : PySem.W.takesIn K (.builtin "object.__class__") = some true
  cm : PySem.W.mroIn K C (.type "object") = some true
def D.clsU : D → Option Value
  | .ref C => some (.ref C)
  | .ty n => some (.type n)
  | _ => none
theorem clsU_at {K : PySem.W.Frag} {Z H : Hp} {e : D} {v : V} (w : Vw K Z H e v) {u : Value} (h : e.clsU = some u) : ClsV v u := by
  cases w with
  | rz r =>
    cases r with
    | ref a => cases h; exact .own a
    | ty n => cases h; exact .ty n
    | _ => cases h
  | _ => cases h
def oIsi (K : PySem.W.Frag) : D → D → (T → Prop) → Prop := fun d e R => ∃ C fs u b, d = .obj C fs ∧ e.clsU = some u ∧ InsC K C ∧ PySem.W.kitOne K (.ref C) u = some b ∧ R (.frz (.bl b))
theorem cv_isi : CallV2 X (.builtin "isinstance") (oIsi X.K) := ⟨_, call_isi, fun Z H d v d' v' R Q hs w w' ⟨C, fs, u, b, e1, e2, I, hk, q⟩ k => by
  subst e1
  cases w with
  | rz r =>
    cases r with
    | obj h1 h2 h3 => exact ⟨_, _, .ref C, u, b, rfl, clsU_at w' e2, .base (.ins (hs _ _ h1) I.cls I.ca I.cn I.ct I.cm), hk, k.frz hs (.bl b) q⟩⟩
/-! ### displays of dicts -/
def mDisp : List (Key × ME) → Sl → (List (Key × D) → Sl → Prop) → XRl → Prop
  | [], Γ, R, _ => R [] Γ
  | (k, m) :: r, Γ, R, XR => m Γ (fun t Γ' => mDisp r Γ' (fun kvs Γ2 => R ((k, t.toD) :: kvs) Γ2) XR) XR
def mergeD (kvs : List (Key × D)) : List (Key × D) := kvs.foldl (fun acc kv => putD acc kv.1 kv.2) []
def mDct (l : List (Key × ME)) : ME := fun Γ R XR => mDisp l Γ (fun kvs Γ' => R (.bd (mergeD kvs)) Γ') XR
/-- keys are constants -/
inductive VPs (X : Cx) (W : WX) (pos : Pos) : List (Option Expr) → List Expr → List (Key × ME) → Prop
  | nil : VPs X W pos [] [] []
  | cons {ke e : Expr} {k : Key} {m : ME} {ks : List (Option Expr)} {es : List Expr} {l : List (Key × ME)} (hk : PE X ke (tC (kV k))) (h : VE X W e m) (r : VPs X W pos ks es l) : VPs X W pos (some ke :: ks) (e :: es) ((k, m) :: l)
theorem merge_rep {K : PySem.W.Frag} {Z : Hp} : ∀ {kvs : List (Key × D)} {kvs' : List (Key × V)} {acc : List (Key × D)} {acc' : List (Key × V)}, kvs'.map (·.1) = kvs.map (·.1) → Rzs K Z (kvs.map (·.2)) (kvs'.map (·.2)) → acc'.map (·.1) = acc.map (·.1) → Rzs K Z (acc.map (·.2)) (acc'.map (·.2)) →
    (mergeK acc' kvs').map (·.1) = (kvs.foldl (fun acc kv => putD acc kv.1 kv.2) acc).map (·.1) ∧ Rzs K Z ((kvs.foldl (fun acc kv => putD acc kv.1 kv.2) acc).map (·.2)) ((mergeK acc' kvs').map (·.2))
  | [], [], _, _, _, _, e, r => ⟨e, r⟩
  | [], _ :: _, _, _, e, _, _, _ => by simp at e
  | _ :: _, [], _, _, e, _, _, _ => by simp at e
  | (k, d) :: kvs, (k', v) :: kvs', acc, acc', e, r, e2, r2 => by
    simp only [List.map_cons, List.cons.injEq] at e
    obtain ⟨rfl, e⟩ := e
    simp only [List.map_cons] at r
    cases r with
    | cons h r =>
      obtain ⟨p1, p2⟩ := rzs_putD e2 r2 k' h
      exact merge_rep (kvs := kvs) (kvs' := kvs') (acc := putD acc k' d) (acc' := putK acc' k' v) e r p1 p2
theorem VPs.len {pos : Pos} {ks : List (Option Expr)} {es : List Expr} {l : List (Key × ME)} (h : VPs X W pos ks es l) : ks.length = es.length ∧ l.length = ks.length ∧ ks.all (·.isSome) = true := by
  induction h with
  | nil => exact ⟨rfl, rfl, rfl⟩
  | cons _ _ _ ih => exact ⟨by simp [ih.1], by simp [ih.2.1], by simp [ih.2.2]⟩
theorem VPs.snd {pos : Pos} {ks : List (Option Expr)} {es : List Expr} {l : List (Key × ME)} (h : VPs X W pos ks es l) : ∃ trs, PPs X pos ks es trs ∧ ∀ Z H σ Γ F R XR (Q : List (V × V) → Hp → Prop), Same Z H → Rsl X.K Z H Γ σ F → mDisp l Γ R XR →
    (∀ Z' H' Γ' F' (kvs : List (Key × D)) (kvs' : List (Key × V)), Same Z' H' → VL.Ext Z H F Z' H' F' → Rsl X.K Z' H' Γ' σ F' → kvs'.map (·.1) = kvs.map (·.1) → Rzs X.K Z' (kvs.map (·.2)) (kvs'.map (·.2)) → kvs.length = l.length → R kvs Γ' → Q (kvs'.map fun kv => (kV kv.1, kv.2)) H') → XOk X.K Z H F σ XR W → tPairs trs σ H Q := by
  induction h with
  | nil => exact ⟨[], pps_nil, fun Z H σ Γ F R XR Q hs rs m k x => k Z H Γ F [] [] hs (.refl ..) rs rfl .nil rfl m⟩
  | @cons ke e k0 m0 ks es l hk he _ ih =>
    obtain ⟨trs, pp, sn⟩ := ih
    obtain ⟨t, pe, se⟩ := he.ex
    refine ⟨_, pps_cons hk pe pp, fun Z H σ Γ F R XR Q hs rs m k x => ?_⟩
    show t σ H fun y H2 => tPairs trs σ H2 fun ps H3 => Q ((kV k0, y) :: ps) H3
    refine snd_frz se (R := fun d Γ' => mDisp l Γ' (fun kvs Γ2 => R ((k0, d) :: kvs) Γ2) XR) hs rs m (fun Z1 H1 Γ1 F1 d v s1 e1 r1 rz q1 => ?_) x
    refine sn Z1 H1 σ Γ1 F1 _ XR _ s1 r1 q1 (fun Z2 H2 Γ2 F2 kvs kvs' s2 e2 r2 hk2 hz2 hl q2 => ?_) (x.step0 e1)
    exact k Z2 H2 Γ2 F2 ((k0, d) :: kvs) ((k0, v) :: kvs') s2 (e1.trans e2) r2 (by simp [hk2]) (.cons (rz.mono e2.z) hz2) (by simp [hl]) q2
theorem ve_dct {ks : List (Option Expr)} {es : List Expr} {l : List (Key × ME)} {pos : Pos} (h : VPs X W pos ks es l) (h0 : ks ≠ [] := by exact fun z => nomatch z) (h15 : ks.length ≤ 15 := by decide) : VE X W (.Dict ks es pos) (mDct l) := by
  obtain ⟨l1, l2, l3⟩ := h.len
  obtain ⟨trs, pp, sn⟩ := h.snd
  refine ⟨_, pe_disp pp l3 l1 h0 h15, fun Z H σ Γ F R XR Q hs rs m k x p hp => ?_⟩
  have st := PStep.new hs (o := .dK []) hp
  have pF : p ∉ F := fun z => by obtain ⟨_, o, ho⟩ := rs.foot p z; rw [hp] at ho; cases ho
  have r0 : Rp X.K Z (upd H p (.dK [])) (.bd []) (.ref p) [p] := .bd upd_same (hs.free hp) rfl .nil
  have e0 : VL.Ext Z H F Z (upd H p (.dK [])) F := by simpa using st.ext (F := F) (G := []) (fun x hx => absurd hx (by simp))
  refine sn Z _ σ Γ F _ XR _ st.zh (st.slots rs) m (fun Z1 H1 Γ1 F1 kvs kvs' s1 e1 r1 hk hz hl q1 => ?_) (x.step0 e0)
  obtain ⟨kp, kn⟩ := e1.keeps r0 (fun a ha => by rw [List.mem_singleton.mp ha]; exact pF)
  cases kp with
  | @bd _ kk _ h1 h2 h3 h4 =>
    have ek : kk = [] := by
      cases kk with
      | nil => rfl
      | cons a b => simp at h3
    subst ek
    refine ⟨h1, kvs', rfl, ?_, ?_⟩
    · have := congrArg List.length hk
      rw [List.length_map, List.length_map] at this
      omega
    · obtain ⟨p1, p2⟩ := merge_rep (acc := []) (acc' := []) hk hz rfl .nil
      have e2 : VL.Ext Z H F Z1 (upd H1 p (.dK (mergeK [] kvs'))) (F1 ++ [p]) := by
        have a : VL.Ext Z H F Z (upd H p (.dK [])) (F ++ [p]) := st.ext (fun y hy => by rw [List.mem_singleton.mp hy]; exact hp)
        have b : VL.Ext Z1 H1 (F1 ++ [p]) Z1 (upd H1 p (.dK (mergeK [] kvs'))) (F1 ++ [p]) := ⟨.refl _, fun a h => .inl h, fun a o h n => ⟨by rw [upd_ne (fun z => n (by simp [z]))]; exact h, n⟩⟩
        exact (a.tr e1).trans b
      refine k Z1 _ Γ1 F1 (.bd (mergeD kvs)) (.ref p) [p] (same_chg s1 h2) e2 (r1.mono (.refl _) fun y hy => ⟨(r1.foot y hy).1, upd_ne fun z => kn p (by simp) (by rw [← z]; exact hy)⟩) (.bd upd_same h2 p1 p2) (fun y hy => by rw [List.mem_singleton.mp hy]; exact kn p (by simp)) q1
end
end VL
set_option Elab.async false
set_option linter.all false
set_option autoImplicit false
set_option maxRecDepth 100000
set_option maxHeartbeats 4000000
/-! VL18: f-strings. -/
namespace VL
open PySem PySem.Spec PySem.Calls L2
open PyProof.Rows hiding St

theorem strOk_ofString (s : String) : PyData.strOk (Str.ofString s) = true := strOk_iff.mpr fun c hc => by
  have e : (Str.ofString s).cps.toList = s.toList.map Char.toNat := by
    show (cpsOfBytes 0 0 s.toByteArray.data.toList).toArray.toList = _
    rw [cpsOfBytes_string]
  rw [e] at hc
  obtain ⟨ch, _, e⟩ := List.mem_map.mp hc
  rw [← e]
  have h := ch.valid
  have e2 : ch.toNat = ch.val.toNat := rfl
  rcases h with h | ⟨_, h⟩
  · have h' : ch.val.toNat < 55296 := h
    omega
  · have h' : ch.val.toNat < 1114112 := h
    omega
section
variable {X : Cx} {W : WX}
def oFmt : D → (T → Prop) → Prop := fun d R => match d with
  | .str s => s.length ≤ sizeLine ∧ R (.frz (.str s))
  | .int i => i.natAbs.log2 < 1920 ∧ R (.frz (.str (Str.ofString (toString i))))
  | _ => False
theorem ve_fmt {e : Expr} {o : Opr} {pos : Pos} (h : VO X W e o) : VE X W (.FormattedValue e (-1) none pos) (mO1 oFmt o) := by
  obtain ⟨t, pe, sn⟩ := snd_o1 (r := fun x H1 Q => (∃ y : Str, x = .str y ∧ y.length ≤ sizeLine ∧ Q (.str y) H1) ∨ ∃ i : Int, x = .int i ∧ i.natAbs.log2 < 1920 ∧ Q (.str (Str.ofString (toString i))) H1) h (op := oFmt) (fun Z H d v R Q hs w q k => by
    cases d with
    | str s => exact .inl ⟨s, w.strE.1, q.1, k.frz hs (.str _ w.strE.2) q.2⟩
    | int i => exact .inr ⟨i, w.intE, q.1, k.frz hs (.str _ (strOk_ofString _)) q.2⟩
    | _ => exact q.elim)
  exact ⟨_, pe_fmt pe, sn⟩
def mJs : List ME → Str → Sl → (Str → Sl → Prop) → XRl → Prop
  | [], acc, Γ, R, _ => R acc Γ
  | m :: ms, acc, Γ, R, XR => m Γ (fun t Γ' => ∃ y, t = .frz (.str y) ∧ (acc ++ y).length ≤ sizeLine ∧ mJs ms (acc ++ y) Γ' R XR) XR
inductive VJ (X : Cx) (W : WX) : List Expr → List ME → Prop where
  | nil : VJ X W [] []
  | cons {e : Expr} {m : ME} {es : List Expr} {ms : List ME} (h : VE X W e m) (r : VJ X W es ms) : VJ X W (e :: es) (m :: ms)
theorem VJ.snd {es : List Expr} {ms : List ME} (h : VJ X W es ms) : ∃ ts, PJ X es ts ∧ ∀ acc Z H σ Γ F R XR (Q : Str → Hp → Prop), Same Z H → Rsl X.K Z H Γ σ F → PyData.strOk acc = true → mJs ms acc Γ R XR →
    (∀ Z' H' Γ' F' s, Same Z' H' → VL.Ext Z H F Z' H' F' → Rsl X.K Z' H' Γ' σ F' → PyData.strOk s = true → R s Γ' → Q s H') → XOk X.K Z H F σ XR W → tJs ts acc σ H Q := by
  induction h with
  | nil => exact ⟨[], .nil, fun acc Z H σ Γ F R XR Q hs rs ok m k x => k Z H Γ F acc hs (.refl ..) rs ok m⟩
  | @cons e m0 es ms he _ ih =>
    obtain ⟨ts, pj, sn⟩ := ih
    obtain ⟨t, pe, se⟩ := he.ex
    refine ⟨_, .cons pe pj, fun acc Z H σ Γ F R XR Q hs rs ok m k x => ?_⟩
    refine se Z H σ Γ F _ XR _ hs rs m (fun Z1 H1 Γ1 F1 tt v G s1 e1 r1 p1 n1 q1 => ?_) x
    obtain ⟨y, et, hl, q1⟩ := q1
    subst et
    cases p1 with
    | frz rz =>
      cases rz with
      | str _ oky =>
        have e1' := e1.sub fun _ h => List.mem_append_left _ h
        exact ⟨y, rfl, hl, sn (acc ++ y) Z1 H1 σ Γ1 F1 R XR Q s1 r1 (strOk_append ok oky) q1 (fun Z2 H2 Γ2 F2 s s2 e2 r2 ok2 q2 => k Z2 H2 Γ2 F2 s s2 (e1'.trans e2) r2 ok2 q2) (x.step0 e1')⟩
def mJoin (ms : List ME) : ME := fun Γ R XR => mJs ms Str.empty Γ (fun s Γ' => R (.frz (.str s)) Γ') XR
theorem ve_joined {v1 v2 : Expr} {rest : List Expr} {ms : List ME} {pos : Pos} (h : VJ X W (v1 :: v2 :: rest) ms) : VE X W (.JoinedStr (v1 :: v2 :: rest) pos) (mJoin ms) := by
  obtain ⟨ts, pj, sn⟩ := h.snd
  exact ⟨_, pe_joined pj, fun Z H σ Γ F R XR Q hs rs m k x => sn Str.empty Z H σ Γ F _ XR _ hs rs (by decide +kernel) m (fun Z1 H1 Γ1 F1 s s1 e1 r1 ok q1 => (k.step e1).pure s1 r1 (.str s ok) q1) x⟩
theorem ve_joined1 {e : Expr} {m : ME} {pos : Pos} (h : VE X W e m) : VE X W (.JoinedStr [e] pos) m := by
  obtain ⟨t, pe, sn⟩ := h.ex
  exact ⟨_, pe_joined1 pe, sn⟩
end
end VL
set_option Elab.async false
set_option linter.all false
set_option autoImplicit false
set_option maxRecDepth 100000
set_option maxHeartbeats 4000000
/-! VL19: promises by names; loops by invariants. -/
namespace VL
open PySem PySem.Spec PySem.Calls L2
open PyProof.Rows hiding St

/-- a def that keeps its promise -/
def OkF (P : Program) (w : World) (K : PySem.W.Frag) (mg : Str → Option Value) (base : Heap) (lv : Nat) (f : Addr) (ps : List Str) (sp : VSp) : Prop := ∃ fd, FnG P w K mg base lv f fd ps (lift K ps.length sp) ∧ Binds K fd ps []
abbrev OkX (X : Cx) (lv : Nat) (f : Addr) (ps : List Str) (sp : VSp) : Prop := OkF X.prog X.w X.K X.mg X.base lv f ps sp
section
variable {X : Cx} {W : WX} {lv k : Nat} {fa C : Addr} {ps : List Str} {sp : VSp} {nm mt : Str} {p pos apos : Pos} {e o : Expr} {es : List Expr}
theorem ve_callO {g : MG} (F : OkX X lv fa ps sp) (hr : RoomG k X.A) (tk : Takes X W) (hm : X.mg nm = some (.ref fa)) (hk : PySem.W.keepIn X.K (.ref fa) = true) (ha : VG X W (e :: es) g) (hlv : lv ≤ k := by decide) (hg : Gl X nm := by rfl) (hn : (e :: es).length = ps.length := by rfl) (hdb : (nm == ("__debug__" : Str)) = false := by decide)
    (he : starEach (e :: es) X.env = (false, eval e X.env) :: starEach es X.env := by rfl) (hpl : (backTo pos (starEach es X.env)).any (·.1) = false := by rfl) : VE X W (.Call (.Name nm p) (e :: es) [] pos) (mCall sp g) := by
  obtain ⟨fd, F, hb⟩ := F
  exact ve_call F (hr.mono hlv) hg hm hk hb tk ha hn hdb he hpl
theorem ve_callO0 (F : OkX X lv fa ps sp) (hr : RoomG k X.A) (tk : Takes X W) (hm : X.mg nm = some (.ref fa)) (hk : PySem.W.keepIn X.K (.ref fa) = true) (hlv : lv ≤ k := by decide) (hg : Gl X nm := by rfl) (hn : 0 = ps.length := by rfl) (hdb : (nm == ("__debug__" : Str)) = false := by decide) :
    VE X W (.Call (.Name nm p) [] [] pos) (mCall sp g0) := by
  obtain ⟨fd, F, hb⟩ := F
  exact ve_call0 F (hr.mono hlv) hg hm hk hb tk hn hdb
theorem ve_makeO {g : MG} (F : OkX X lv fa ps sp) (M : Mk X.K C fa) (hr : RoomG k X.A) (tk : Takes X W) (hm : X.mg nm = some (.ref C)) (ha : VG X W (e :: es) g) (hlv : lv + 1 ≤ k := by decide) (hg : Gl X nm := by rfl) (hn : (e :: es).length + 1 = ps.length := by rfl) (hdb : (nm == ("__debug__" : Str)) = false := by decide)
    (he : starEach (e :: es) X.env = (false, eval e X.env) :: starEach es X.env := by rfl) (hpl : (backTo pos (starEach es X.env)).any (·.1) = false := by rfl) : VE X W (.Call (.Name nm p) (e :: es) [] pos) (mMake C sp g) := by
  obtain ⟨fd, F, hb⟩ := F
  exact ve_make M F (hr.mono hlv) hg hm hb tk ha hn hdb he hpl
end
/-! ### rooms as the rules ask them -/
theorem RoomG.u1 {k : Nat} {A : Around} (r : RoomG k A) : A.units + 1 < cLine := by have := r.room.un; omega
theorem RoomG.u64 {k : Nat} {A : Around} (r : RoomG k A) : A.units + 64 < cLine := by have := r.room.un; omega
theorem RoomG.u65 {k : Nat} {A : Around} (r : RoomG k A) : A.units + 65 < cLine := by have := r.room.un; omega
theorem RoomG.z {k : Nat} {A : Around} (r : RoomG k A) : RoomG 0 A := r.mono (Nat.zero_le _)
def oMulA : D → D → (T → Prop) → Prop := fun d e R => oMul d e R ∨ oMulS d e R
theorem ov_mulA {X : Cx} : OpV X (binaryOp .Mult) oMulA := ov_mul.or ov_mulS
/-! ### the boot's names -/
theorem bt_len : bootBuiltins ("len" : Str) = some (.builtin "len") := by kernel_rfl
theorem bt_abs : bootBuiltins ("abs" : Str) = some (.builtin "abs") := by kernel_rfl
theorem bt_all : bootBuiltins ("all" : Str) = some (.builtin "all") := by kernel_rfl
theorem bt_any : bootBuiltins ("any" : Str) = some (.builtin "any") := by kernel_rfl
theorem bt_isinstance : bootBuiltins ("isinstance" : Str) = some (.builtin "isinstance") := by kernel_rfl
theorem bt_int : bootBuiltins ("int" : Str) = some (.type "int") := by kernel_rfl
theorem bt_str : bootBuiltins ("str" : Str) = some (.type "str") := by kernel_rfl
theorem bt_list : bootBuiltins ("list" : Str) = some (.type "list") := by kernel_rfl
theorem bt_tuple : bootBuiltins ("tuple" : Str) = some (.type "tuple") := by kernel_rfl
theorem bt_ValueError : bootBuiltins ("ValueError" : Str) = some (.type "ValueError") := by kernel_rfl
/-! ### constants of the module -/
theorem ve_gint {X : Cx} {W : WX} {x : Str} {i : Int} {pos : Pos} (hm : ∃ t, X.mg x = some (.int i t)) (hg : Gl X x := by rfl) (hd : (x == ("__debug__" : Str)) = false := by decide) : VE X W (.Name x pos) (mC (.int i)) := by
  obtain ⟨t, hm⟩ := hm
  exact ve_glob hg hm (v := .int i) ⟨t, rfl⟩ (fun _ => .int i) hd
theorem ve_gstr {X : Cx} {W : WX} {x z : Str} {pos : Pos} (hm : ∃ t, X.mg x = some (.str z t)) (hz : PyData.strOk z = true := by decide +kernel) (hg : Gl X x := by rfl) (hd : (x == ("__debug__" : Str)) = false := by decide) : VE X W (.Name x pos) (mC (.str z)) := by
  obtain ⟨t, hm⟩ := hm
  exact ve_glob hg hm (v := .str z) ⟨t, rfl⟩ (fun _ => .str z hz) hd
/-- a tuple of texts -/
theorem ve_gtup {X : Cx} {W : WX} {x : Str} {zs : List Str} {a : Addr} {pos : Pos} (hm : X.mg x = some (.ref a) ∧ ∀ H, SqT X.K H a (zs.map V.str)) (hz : zs.all PyData.strOk = true := by decide +kernel) (hg : Gl X x := by rfl) (hd : (x == ("__debug__" : Str)) = false := by decide) : VE X W (.Name x pos) (mC (.tup (zs.map D.str))) :=
  ve_glob hg hm.1 (v := .ref a) rfl (fun Z => .tup (hm.2 Z) (.ofStrs zs fun z hzz => List.all_eq_true.mp hz z hzz)) hd
/-- a class of the module -/
theorem ve_gcls {X : Cx} {W : WX} {x : Str} {C : Addr} {pos : Pos} (hm : X.mg x = some (.ref C)) (hg : Gl X x := by rfl) (hd : (x == ("__debug__" : Str)) = false := by decide) : VE X W (.Name x pos) (mC (.ref C)) :=
  ve_glob hg hm (v := .ref C) rfl (fun _ => .ref C) hd
/-! ### what a suite asks, whatever the class -/
theorem pe_no {X : Cx} {e : Expr} : PE X e (fun _ _ _ => False) := ⟨fun _ _ _ _ _ _ h => h.elim⟩
def mXF (K : PySem.W.Frag) (i : Nat) (f : Str) (a C : Addr) (d : Option Addr) : ME := fun Γ R _ => (XfC K C ∧ PySem.W.findIn K (.ref C) f = some none) ∧ ∃ fs dv, Γ[i]? = some (some (.frz (.exc a C d fs))) ∧ fs.lookup f = some dv ∧ R (.frz dv) Γ
def mXI (K : PySem.W.Frag) (i : Nat) (cv : Value) (a C : Addr) (d : Option Addr) : ME := fun Γ R _ => ∃ b, (ExcC K C ∧ PySem.W.kitOne K (.ref C) cv = some b) ∧ (∃ fs, Γ[i]? = some (some (.frz (.exc a C d fs)))) ∧ R (.frz (.bl b)) Γ
section
variable {X : Cx} {W : WX} {a C : Addr} {oe : Obj} {d : Option Addr} {pn : List (Addr × Obj)}
theorem ve_XF (i : Nat) {x f : Str} {px pos : Pos} (hz : Zc (.ref C) d oe) (hf : ∃ vs, oe.data = .fields vs) (hN : X.N[i]? = some x := by rfl) (hv : Vis X.env.scope x := by first | exact Or.inl rfl | exact Or.inr (Or.inl rfl) | exact Or.inr (Or.inr rfl)) (hd : (x == ("__debug__" : Str)) = false := by decide) (hcd : (x == ("__classdict__" : Str)) = false := by decide)
    (hb : attributeBase (.Name x px) f X.env (eval (.Name x px) X.env) = eval (.Name x px) X.env := by rfl) : VE (X.suite a ((a, oe) :: pn)) W (.Attribute (.Name x px) f pos) (mXF X.K i f a C d) := by
  by_cases h : XfC X.K C ∧ PySem.W.findIn X.K (.ref C) f = some none
  · obtain ⟨t, pe, sn⟩ := (ve_xf (W := W) (pos := pos) i hz hf h.1 h.2 hN hv hd hcd hb).ex
    exact ⟨t, pe, fun Z H σ Γ F R XR Q hs rs m k x => sn Z H σ Γ F R XR Q hs rs m.2 k x⟩
  · exact ⟨_, pe_no, fun Z H σ Γ F R XR Q hs rs m k x => h m.1⟩
theorem ve_XI (i : Nat) {x : Str} {px p pos : Pos} {c : V} {cv : Value} {ce : Expr} (hz : Zc (.ref C) d oe) (hf : ∃ vs, oe.data = .fields vs) (hc : PE (X.suite a ((a, oe) :: pn)) ce (tC c)) (hcv : ClsV c cv) (hm : X.mg "isinstance" = none) (hg : Gl X "isinstance" := by rfl)
    (hN : X.N[i]? = some x := by rfl) (hv : Vis X.env.scope x := by first | exact Or.inl rfl | exact Or.inr (Or.inl rfl) | exact Or.inr (Or.inr rfl)) (hd : (x == ("__debug__" : Str)) = false := by decide) (hcd : (x == ("__classdict__" : Str)) = false := by decide)
    (hs1 : starEach [.Name x px, ce] X.env = (false, eval (.Name x px) X.env) :: starEach [ce] X.env := by rfl) (hs2 : starEach [ce] X.env = (false, eval ce X.env) :: starEach [] X.env := by rfl) (hpl : (backTo pos (starEach [ce] X.env)).any (·.1) = false := by rfl) :
    VE (X.suite a ((a, oe) :: pn)) W (.Call (.Name "isinstance" p) [.Name x px, ce] [] pos) (mXI X.K i cv a C d) := by
  by_cases h : ∃ b, ExcC X.K C ∧ PySem.W.kitOne X.K (.ref C) cv = some b
  · obtain ⟨b, h1, h2⟩ := h
    obtain ⟨t, pe, sn⟩ := (ve_xi (W := W) (p := p) (pos := pos) i h1 hz hf hc hcv h2 hg hm hN hv hd hcd hs1 hs2 hpl bt_isinstance).ex
    refine ⟨t, pe, fun Z H σ Γ F R XR Q hs rs m k x => ?_⟩
    obtain ⟨b2, h3, q⟩ := m
    have e : b2 = b := Option.some.inj (h3.2.symm.trans h2)
    subst e
    exact sn Z H σ Γ F R XR Q hs rs q k x
  · exact ⟨_, pe_no, fun Z H σ Γ F R XR Q hs rs ⟨b, m, _⟩ k x => h ⟨b, m⟩⟩
end
/-! ### loops -/
theorem forL_inv {g : MG1} {b : MS} {M : VEnds} (I : List D → Sl → Prop) (step : ∀ d ds Γ (N : Sl → Prop), I (d :: ds) Γ → (∀ Γ', I ds Γ' → N Γ') → g d Γ fun Γ' => b Γ' { M with nx := N, ct := N, bk := M.nx }) (last : ∀ Γ, I [] Γ → M.nx Γ) : ∀ ds Γ, I ds Γ → forL g b M ds Γ
  | [], Γ, h => last Γ h
  | d :: ds, Γ, h => step d ds Γ _ h fun Γ' h' => forL_inv I step last ds Γ' h'
theorem lcL_inv {g : MG1} {tt : MT} {te : ME} {vs : List Nat} {R : List D → Sl → Prop} (I : List D → List D → Sl → Prop)
    (step : ∀ d ds acc Γ (N : List D → Sl → Prop), I (d :: ds) acc Γ → (∀ acc' Γ', I ds acc' (wipeS Γ' vs) → N acc' (wipeS Γ' vs)) → g d Γ fun Γ1 => tt Γ1 (fun b Γ2 => if b = true then te Γ2 (fun t Γ3 => acc.length < sizeLine ∧ N (acc ++ [t.toD]) (wipeS Γ3 vs)) noX else N acc (wipeS Γ2 vs)) noX)
    (last : ∀ acc Γ, I [] acc Γ → R acc Γ) : ∀ ds acc Γ, I ds acc Γ → lcL g tt te vs R ds acc Γ
  | [], acc, Γ, h => last acc Γ h
  | d :: ds, acc, Γ, h => step d ds acc Γ _ h fun acc' Γ' h' => lcL_inv I step last ds acc' _ h'
end VL
set_option Elab.async false
set_option linter.all false
set_option autoImplicit false
set_option maxRecDepth 100000
set_option maxHeartbeats 4000000
/-! VL20: own exceptions and own == by their promises. -/
namespace VL
open PySem PySem.Spec PySem.Calls L2
open PyProof.Rows hiding St

/-- an own exception's __init__ that keeps its promise -/
def OkE (P : Program) (w : World) (K : PySem.W.Frag) (mg : Str → Option Value) (base : Heap) (lv : Nat) (f : Addr) (ps : List Str) (n : Nat) (C : Addr) (ok : List D → (List (Str × D) → Prop) → Prop) : Prop := ∃ fd, FnOk P w K mg base (L2.CX P w) lv f fd ps (spX K n C ok) ∧ Binds K fd ps []
/-- the class at C, its __init__ at fI -/
structure XcC (K : PySem.W.Frag) (C fI : Addr) : Prop where
  oex : OexC K C
  ini : PySem.W.findIn K (.ref C) "__init__" = some (some (.ref fI))
  fn : PySem.W.typeIn K (.ref fI) = some (.type "function")
/-- the class at C, its == at g -/
structure EqC (K : PySem.W.Frag) (C g : Addr) : Prop where
  eq : PySem.W.findIn K (.ref C) "__eq__" = some (some (.ref g))
  fn : PySem.W.isFn K (.ref g) = true
  ne : PySem.W.findIn K (.ref C) "__ne__" = some (some (.builtin "object.__ne__"))
  mro : PySem.W.mroIn K C (.type "object") = some true
section
variable {X : Cx} {W : WX} {lv k n : Nat} {fI C g : Addr} {ps : List Str} {x : Str} {p pos : Pos} {e : Expr} {es : List Expr} {ok : List D → (List (Str × D) → Prop) → Prop} {sp : VSp}
theorem vx_mkO {a : MA} (o : OkE X.prog X.w X.K X.mg X.base lv fI ps n C ok) (c : XcC X.K C fI) (hr : RoomG k X.A) (hm : X.mg x = some (.ref C)) (ha : VA X W (e :: es) a) (hlv : lv + 1 ≤ k := by decide) (hg : Gl X x := by rfl) (hes : es.length < 1000 := by decide)
    (hdb : (x == ("__debug__" : Str)) = false := by decide) (he : starEach (e :: es) X.env = (false, eval e X.env) :: starEach es X.env := by rfl) (hpl : (backTo pos (starEach es X.env)).any (·.1) = false := by rfl) : VMx X W (.Call (.Name x p) (e :: es) [] pos) (mxC C n ok a) := by
  obtain ⟨fd, F, hb⟩ := o
  exact vx_mk c.oex c.ini c.fn F (hr.room.mono hlv) hb hg hm ha hes hdb he hpl
theorem ov_ownO (o : OkX X lv g ps sp) (c : EqC X.K C g) (hr : RoomG lv X.A) (hp : 2 = ps.length := by rfl) : OpV X (compareOp .Eq) (oOwn X.K [C] sp) := by
  obtain ⟨fd, F, hb⟩ := o
  exact ov_own (fun _ _ => rfl) F hr hb hp c.eq c.fn
theorem ov_ownNeO (o : OkX X lv g ps sp) (c : EqC X.K C g) (hr : RoomG (lv + 1) X.A) (hp : 2 = ps.length := by rfl) : OpV X (compareOp .NotEq) (oOwnNe X.K [C] sp) := by
  obtain ⟨fd, F, hb⟩ := o
  exact ov_ownNe F hr hb hp c.ne c.mro c.eq c.fn
end
end VL
set_option Elab.async false
set_option linter.all false
set_option autoImplicit false
set_option maxRecDepth 100000
set_option maxHeartbeats 4000000
/-! VL21: the combinators' equations, for simp. -/
namespace VL
open PySem PySem.Spec PySem.Calls L2
open PyProof.Rows hiding St

section
variable {Γ : Sl} {R : T → Sl → Prop} {XR : XRl} {i j : Nat} {m n : ME} {M : VEnds} {t : T} {d e : D}
/-! ### slots -/
@[simp] theorem x_slT0 {k : T → Prop} : slT (some t :: Γ) 0 k = k t := rfl
@[simp] theorem x_slTs {x : Option T} {k : T → Prop} : slT (x :: Γ) (i + 1) k = slT Γ i k := by unfold slT; rw [List.getElem?_cons_succ]
theorem x_slVT {k : D → Prop} : slV Γ i k = slT Γ i fun t => t.vw k := rfl
@[simp] theorem x_slV0 {k : D → Prop} : slV (some t :: Γ) 0 k = t.vw k := rfl
@[simp] theorem x_slVs {x : Option T} {k : D → Prop} : slV (x :: Γ) (i + 1) k = slV Γ i k := by unfold slV; rw [List.getElem?_cons_succ]
@[simp] theorem x_vwF {k : D → Prop} : (T.frz d).vw k = k d := rfl
@[simp] theorem x_vwL {ds : List D} {k : D → Prop} : (T.bl ds).vw k = k (.lst ds) := rfl
@[simp] theorem x_vwD {kvs : List (Key × D)} {k : D → Prop} : (T.bd kvs).vw k = k (.dct kvs) := rfl
@[simp] theorem x_toF : (T.frz d).toD = d := by simp [T.toD]
@[simp] theorem x_toL {ds : List D} : (T.bl ds).toD = .lst ds := by simp [T.toD]
@[simp] theorem x_toB {kvs : List (Key × D)} : (T.bd kvs).toD = .dct kvs := by simp [T.toD]
/-- a bool, an int, a text, data -/
def T.tB (t : T) (k : Bool → Prop) : Prop := match t with
  | .frz (.bl b) => k b
  | _ => False
@[simp] theorem x_tB {b : Bool} {k : Bool → Prop} : (T.frz (.bl b)).tB k = k b := rfl
theorem tB_eq {k : Bool → Prop} : (∃ b, t = .frz (.bl b) ∧ k b) = t.tB k := by
  apply propext
  constructor
  · rintro ⟨b, rfl, h⟩; exact h
  · intro h
    cases t with
    | frz d => cases d with
      | bl b => exact ⟨b, rfl, h⟩
      | _ => exact h.elim
    | _ => exact h.elim
def D.dI (d : D) (k : Int → Prop) : Prop := match d with
  | .int i => k i
  | _ => False
@[simp] theorem x_dI {i : Int} {k : Int → Prop} : (D.int i).dI k = k i := rfl
theorem dI_eq {k : Int → Prop} : (∃ i, d = .int i ∧ k i) = d.dI k := by
  apply propext
  constructor
  · rintro ⟨b, rfl, h⟩; exact h
  · intro h
    cases d with
    | int b => exact ⟨b, rfl, h⟩
    | _ => exact h.elim
def T.tS (t : T) (k : Str → Prop) : Prop := match t with
  | .frz (.str b) => k b
  | _ => False
@[simp] theorem x_tS {b : Str} {k : Str → Prop} : (T.frz (.str b)).tS k = k b := rfl
theorem tS_eq {k : Str → Prop} : (∃ b, t = .frz (.str b) ∧ k b) = t.tS k := by
  apply propext
  constructor
  · rintro ⟨b, rfl, h⟩; exact h
  · intro h
    cases t with
    | frz d => cases d with
      | str b => exact ⟨b, rfl, h⟩
      | _ => exact h.elim
    | _ => exact h.elim
def T.tI (t : T) (k : Int → Prop) : Prop := match t with
  | .frz (.int b) => k b
  | _ => False
@[simp] theorem x_tI {b : Int} {k : Int → Prop} : (T.frz (.int b)).tI k = k b := rfl
theorem tI_eq {k : Int → Prop} : (∃ b, t = .frz (.int b) ∧ k b) = t.tI k := by
  apply propext
  constructor
  · rintro ⟨b, rfl, h⟩; exact h
  · intro h
    cases t with
    | frz d => cases d with
      | int b => exact ⟨b, rfl, h⟩
      | _ => exact h.elim
    | _ => exact h.elim
/-! ### expressions -/
@[simp] theorem x_c : mC d Γ R XR = R (.frz d) Γ := rfl
@[simp] theorem x_nm : mNm i Γ R XR = slT Γ i fun t => R (.frz t.toD) (Γ.set i (some (.frz t.toD))) := by
  apply propext
  unfold mNm slT
  constructor
  · rintro ⟨t, e, h⟩; rw [e]; exact h
  · intro h
    split at h
    · exact ⟨_, by assumption, h⟩
    · exact h.elim
@[simp] theorem x_mv : mMv i Γ R XR = slT Γ i fun t => R t (Γ.set i none) := by
  apply propext
  unfold mMv slT
  constructor
  · rintro ⟨t, e, h⟩; rw [e]; exact h
  · intro h
    split at h
    · exact ⟨_, by assumption, h⟩
    · exact h.elim
@[simp] theorem x_frz : mFrz m Γ R XR = m Γ (fun t Γ' => R (.frz t.toD) Γ') XR := rfl
@[simp] theorem x_a0 {R : List T → Sl → Prop} : mA0 Γ R XR = R [] Γ := rfl
@[simp] theorem x_ac {r : MA} {R : List T → Sl → Prop} : mAc m r Γ R XR = m Γ (fun t Γ1 => r Γ1 (fun ts Γ2 => R (t :: ts) Γ2) XR) XR := rfl
@[simp] theorem x_tup {g : MA} : mTup g Γ R XR = g Γ (fun ts Γ' => R (.frz (.tup (ts.map T.toD))) Γ') XR := rfl
@[simp] theorem x_lst {g : MA} : mLst g Γ R XR = g Γ (fun ts Γ' => R (.bl (ts.map T.toD)) Γ') XR := rfl
@[simp] theorem x_o1n {op : D → (T → Prop) → Prop} : mO1 op (.nm i) Γ R XR = slV Γ i fun d => op d fun t => R t Γ := rfl
@[simp] theorem x_o1e {op : D → (T → Prop) → Prop} : mO1 op (.ex m) Γ R XR = m Γ (fun t Γ' => t.vw fun d => op d fun t => R t Γ') XR := rfl
@[simp] theorem x_o2nn {op : D → D → (T → Prop) → Prop} : mO2 op (.nm i) (.nm j) Γ R XR = slV Γ i fun d => slV Γ j fun e => op d e fun t => R t Γ := rfl
@[simp] theorem x_o2ne {op : D → D → (T → Prop) → Prop} : mO2 op (.nm i) (.ex m) Γ R XR = (slV Γ i (fun _ => True) ∧ m Γ (fun t Γ' => t.vw fun e => slV Γ' i fun d => op d e fun t => R t Γ') XR) := rfl
@[simp] theorem x_o2en {op : D → D → (T → Prop) → Prop} : mO2 op (.ex m) (.nm j) Γ R XR = m Γ (fun t Γ' => t.vw fun d => slV Γ' j fun e => op d e fun t => R t Γ') XR := rfl
@[simp] theorem x_o2ee {op : D → D → (T → Prop) → Prop} : mO2 op (.ex m) (.ex n) Γ R XR = m Γ (fun t Γ1 => n Γ1 (fun t' Γ2 => t'.vw fun e => t.vw fun d => op d e fun t => R t Γ2) XR) XR := rfl
@[simp] theorem x_tst {R : Bool → Sl → Prop} : mTst m Γ R XR = m Γ (fun t Γ' => t.tB fun b => R b Γ') XR := by unfold mTst; simp only [tB_eq]
@[simp] theorem x_truN {R : Bool → Sl → Prop} : mTru (.nm i) Γ R XR = slV Γ i fun d => d.tru fun b => R b Γ := rfl
@[simp] theorem x_truE {R : Bool → Sl → Prop} : mTru (.ex m) Γ R XR = m Γ (fun t Γ' => t.vw fun d => d.tru fun b => R b Γ') XR := rfl
@[simp] theorem x_truB {b : Bool} {k : Bool → Prop} : (D.bl b).tru k = k b := rfl
@[simp] theorem x_not {m : MT} {R : Bool → Sl → Prop} : mNot m Γ R XR = m Γ (fun b Γ' => R (!b) Γ') XR := rfl
@[simp] theorem x_and {m n : MT} {R : Bool → Sl → Prop} : mAnd m n Γ R XR = m Γ (fun b Γ' => if b = true then n Γ' R XR else R false Γ') XR := rfl
@[simp] theorem x_or {m n : MT} {R : Bool → Sl → Prop} : mOr m n Γ R XR = m Γ (fun b Γ' => if b = true then R true Γ' else n Γ' R XR) XR := rfl
@[simp] theorem x_andV : mAndV m n Γ R XR = m Γ (fun t Γ' => t.tB fun b => if b = true then n Γ' R XR else R (.frz (.bl false)) Γ') XR := by unfold mAndV; simp only [tB_eq]
@[simp] theorem x_orV : mOrV m n Γ R XR = m Γ (fun t Γ' => t.tB fun b => if b = true then R (.frz (.bl true)) Γ' else n Γ' R XR) XR := by unfold mOrV; simp only [tB_eq]
@[simp] theorem x_notV : mNotV m Γ R XR = m Γ (fun t Γ' => t.tB fun b => R (.frz (.bl (!b))) Γ') XR := by unfold mNotV; simp only [tB_eq]
@[simp] theorem x_ifE {c : MT} : mIfE c m n Γ R XR = c Γ (fun b Γ' => if b = true then m Γ' R XR else n Γ' R XR) XR := rfl
@[simp] theorem x_no {R : Option Int → Sl → Prop} : mNo Γ R XR = R none Γ := rfl
@[simp] theorem x_so {R : Option Int → Sl → Prop} : mSo m Γ R XR = m Γ (fun t Γ' => t.tI fun i => R (some i) Γ') XR := by unfold mSo; simp only [tI_eq]
@[simp] theorem x_slcN {op : D → Option Int → Option Int → (T → Prop) → Prop} {lo hi : MO} : mSlc op (.nm i) lo hi Γ R XR = (slV Γ i (fun _ => True) ∧ lo Γ (fun a Γ1 => hi Γ1 (fun b Γ2 => slV Γ2 i fun d => op d a b fun t => R t Γ2) XR) XR) := rfl
@[simp] theorem x_slcE {op : D → Option Int → Option Int → (T → Prop) → Prop} {lo hi : MO} : mSlc op (.ex m) lo hi Γ R XR = m Γ (fun t Γ1 => lo Γ1 (fun a Γ2 => hi Γ2 (fun b Γ3 => t.vw fun d => op d a b fun t => R t Γ3) XR) XR) XR := rfl
@[simp] theorem x_str1 {op : Str → List D → (T → Prop) → Prop} : mStr1 op m n Γ R XR = m Γ (fun t Γ1 => t.tS fun s => n Γ1 (fun te Γ2 => op s [te.toD] fun t' => R t' Γ2) XR) XR := by unfold mStr1; simp only [tS_eq]
@[simp] theorem x_chain {o o' : D → D → (T → Prop) → Prop} {ma mb mc : ME} : mChain o o' ma mb mc Γ R XR = ma Γ (fun ta Γ1 => mb Γ1 (fun tb Γ2 => o ta.toD tb.toD fun t => t.tB fun k => if k = true then mc Γ2 (fun tc Γ3 => o' tb.toD tc.toD fun t => R t Γ3) XR else R (.frz (.bl false)) Γ2) XR) XR := by unfold mChain; simp only [tB_eq]
@[simp] theorem x_mut {isTy : T → Prop} {op : T → List D → (D → T → Prop) → Prop} {g : MA} : mMut i isTy op g Γ R XR = (slT Γ i isTy ∧ g Γ (fun ts Γ' => slT Γ' i fun t => op t (ts.map T.toD) fun d t' => R (.frz d) (Γ'.set i (some t'))) XR) := rfl
@[simp] theorem x_isBl {ds : List D} : (T.bl ds).isBl = True := rfl
@[simp] theorem x_call {sp : VSp} {g : MG} : mCall sp g Γ R XR = g Γ (fun as Γ' => call1 sp as Γ' R XR) XR := rfl
@[simp] theorem x_g0 {R : List AV → Sl → Prop} : g0 Γ R XR = R [] Γ := rfl
@[simp] theorem x_gE {r : MG} {R : List AV → Sl → Prop} : gE m r Γ R XR = m Γ (fun t Γ1 => r Γ1 (fun as Γ2 => R (.tm t :: as) Γ2) XR) XR := rfl
@[simp] theorem x_gN {r : MG} {R : List AV → Sl → Prop} : gN i r Γ R XR = (slT Γ i (fun _ => True) ∧ r Γ (fun as Γ' => R (.io i :: as) Γ') XR) := by
  unfold gN slT
  apply propext
  constructor
  · rintro ⟨⟨t, e⟩, h⟩; rw [e]; exact ⟨trivial, h⟩
  · rintro ⟨h, h2⟩
    split at h
    · exact ⟨⟨_, by assumption⟩, h2⟩
    · exact h.elim
@[simp] theorem x_call1 {sp : VSp} {as : List AV} : call1 sp as Γ R XR = argT as Γ fun ts => sp ts (fun r Γp => R r (wb as Γp (clr as Γ))) (fun C fs Γp => XR C fs (wb as Γp (clr as Γ))) := rfl
@[simp] theorem x_arg0 {k : List T → Prop} : argT [] Γ k = k [] := rfl
@[simp] theorem x_argI {as : List AV} {k : List T → Prop} : argT (.io i :: as) Γ k = slT Γ i fun t => argT as (Γ.set i none) fun ts => k (t :: ts) := rfl
@[simp] theorem x_argT {as : List AV} {k : List T → Prop} : argT (.tm t :: as) Γ k = argT as Γ fun ts => k (.frz t.toD :: ts) := rfl
@[simp] theorem x_clr0 : clr [] Γ = Γ := rfl
@[simp] theorem x_clrI {as : List AV} : clr (.io i :: as) Γ = clr as (Γ.set i none) := rfl
@[simp] theorem x_clrT {as : List AV} : clr (.tm t :: as) Γ = clr as Γ := rfl
@[simp] theorem x_wb0 {Γp : Sl} : wb [] Γp Γ = Γ := by cases Γp <;> rfl
@[simp] theorem x_wbI {as : List AV} {x : Option T} {Γp : Sl} : wb (.io i :: as) (x :: Γp) Γ = wb as Γp (Γ.set i x) := rfl
@[simp] theorem x_wbT {as : List AV} {x : Option T} {Γp : Sl} : wb (.tm t :: as) (x :: Γp) Γ = wb as Γp Γ := rfl
/-! ### statements -/
@[simp] theorem x_seq {a b : MS} : sSeq a b Γ M = a Γ { M with nx := fun Γ' => b Γ' M } := rfl
@[simp] theorem x_nil : sNil Γ M = M.nx Γ := rfl
@[simp] theorem x_brk : sBrk Γ M = M.bk Γ := rfl
@[simp] theorem x_cnt : sCnt Γ M = M.ct Γ := rfl
@[simp] theorem x_exp : sExp m Γ M = m Γ (fun _ Γ' => M.nx Γ') M.xr := rfl
@[simp] theorem x_ret : sRet m Γ M = m Γ (fun t Γ' => M.rt t Γ') M.xr := rfl
@[simp] theorem x_retN : sRetN Γ M = M.rt (.frz .non) Γ := rfl
@[simp] theorem x_if {c : MT} {a b : MS} : sIf c a b Γ M = c Γ (fun k Γ' => if k = true then a Γ' M else b Γ' M) M.xr := rfl
@[simp] theorem x_set : sSet i m Γ M = m Γ (fun t Γ' => i < Γ'.length ∧ M.nx (Γ'.set i (some t))) M.xr := rfl
@[simp] theorem x_asg {g : MG1} : sAsg m g Γ M = m Γ (fun t Γ' => g t.toD Γ' M.nx) M.xr := rfl
@[simp] theorem x_tN {R : Sl → Prop} : tN i d Γ R = (i < Γ.length ∧ R (Γ.set i (some (.frz d)))) := rfl
@[simp] theorem x_tTup {n : Nat} {gs : List D → Sl → (Sl → Prop) → Prop} {ds : List D} {R : Sl → Prop} : tTup n gs (.tup ds) Γ R = (ds.length = n ∧ gs ds Γ R) := by
  unfold tTup
  apply propext
  constructor
  · rintro ⟨_, e, h⟩; cases e; exact h
  · intro h; exact ⟨_, rfl, h⟩
@[simp] theorem x_tCons {g : MG1} {gs : List D → Sl → (Sl → Prop) → Prop} {ds : List D} {R : Sl → Prop} : VL.tCons g gs (d :: ds) Γ R = g d Γ fun Γ' => gs ds Γ' R := by
  unfold VL.tCons
  apply propext
  constructor
  · rintro ⟨_, _, e, h⟩; cases e; exact h
  · intro h; exact ⟨_, _, rfl, h⟩
@[simp] theorem x_tNil {R : Sl → Prop} : VL.tNil [] Γ R = R Γ := by simp [VL.tNil]
@[simp] theorem x_tSub {op : T → D → D → (T → Prop) → Prop} {R : Sl → Prop} : VL.tSub i op m d Γ R = (slT Γ i (fun _ => True) ∧ m Γ (fun ti Γ' => slT Γ' i fun t => op t ti.toD d fun t' => R (Γ'.set i (some t'))) noX) := rfl
@[simp] theorem x_par {g : MA} : sPar i j g Γ M = g Γ (fun ts Γ' => ∃ a b, ts = [a, b] ∧ i < Γ'.length ∧ j < Γ'.length ∧ M.nx ((Γ'.set i (some a)).set j (some b))) M.xr := rfl
@[simp] theorem x_for {mi : MI} {g : MG1} {b : MS} : sFor mi g b Γ M = mi Γ (fun ds Γ' => forL g b M ds Γ') M.xr := rfl
end
/-! ### operators at constructors -/
section
variable {R : T → Prop}
theorem x_int {C : Int → Int → Prop} {g : Int → Int → Int} {i j : Int} : oInt C g (.int i) (.int j) R = (C i j ∧ R (.frz (.int (g i j)))) := by simp [oInt]
@[simp] theorem x_sub {i j : Int} : oSub (.int i) (.int j) R = R (.frz (.int (i - j))) := by simp [oSub, x_int]
@[simp] theorem x_fdiv {i j : Int} : oFdiv (.int i) (.int j) R = (CDivW i j ∧ R (.frz (.int (i / j)))) := x_int
@[simp] theorem x_mod {i j : Int} : oMod (.int i) (.int j) R = (0 < j ∧ R (.frz (.int (i % j)))) := x_int
@[simp] theorem x_pow {i j : Int} : oPow (.int i) (.int j) R = (CPow i j ∧ R (.frz (.int (i ^ j.toNat)))) := x_int
@[simp] theorem x_ib {g : Int → Int → Bool} {i j : Int} : oIB g (.int i) (.int j) R = R (.frz (.bl (g i j))) := by simp [oIB]
@[simp] theorem x_addI {i j : Int} : oAdd (.int i) (.int j) R = R (.frz (.int (i + j))) := by simp [oAdd, oInt, oAddStr, oCat, oCatT]
@[simp] theorem x_addS {a b : Str} : oAdd (.str a) (.str b) R = (a.length + b.length ≤ sizeLine ∧ R (.frz (.str (a ++ b)))) := by simp [oAdd, oInt, oAddStr, oCat, oCatT]
@[simp] theorem x_addL {a b : List D} : oAdd (.lst a) (.lst b) R = (a.length + b.length ≤ sizeLine ∧ R (.bl (a ++ b))) := by simp [oAdd, oInt, oAddStr, oCat, oCatT]
@[simp] theorem x_mulI {i j : Int} : oMulA (.int i) (.int j) R = (CMulW i j ∧ R (.frz (.int (i * j)))) := by simp [oMulA, oMul, oInt, oRep, oMulS]
@[simp] theorem x_mulS {s : Str} {j : Int} : oMulA (.str s) (.int j) R = (MulOk s j ∧ PyData.strOk (Txt.mul s j) = true ∧ R (.frz (.str (Txt.mul s j)))) := by simp [oMulA, oMul, oInt, oRep, oMulS]
@[simp] theorem x_mulL {a : List D} {k : Int} : oMulA (.lst a) (.int k) R = (-(2 ^ 63) ≤ k ∧ k < 2 ^ 63 ∧ a.length * k.toNat ≤ sizeLine ∧ R (.bl (List.replicate k.toNat a).flatten)) := by simp [oMulA, oMul, oInt, oRep, oMulS]
@[simp] theorem x_neg {i : Int} : oNeg (.int i) R = R (.frz (.int (-i))) := by simp [oNeg]
@[simp] theorem x_lenS {s : Str} : oLen (.str s) R = (s.length ≤ sizeLine ∧ R (.frz (.int s.length))) := rfl
@[simp] theorem x_lenL {ds : List D} : oLen (.lst ds) R = R (.frz (.int ds.length)) := rfl
@[simp] theorem x_lenT {ds : List D} : oLen (.tup ds) R = R (.frz (.int ds.length)) := rfl
@[simp] theorem x_int1 {i : Int} : oInt1 (.int i) R = R (.frz (.int i)) := rfl
@[simp] theorem x_int1b {b : Bool} : oInt1 (.bl b) R = R (.frz (.int (if b = true then 1 else 0))) := rfl
@[simp] theorem x_abs {i : Int} : oAbs (.int i) R = R (.frz (.int (if i < 0 then -i else i))) := by simp [oAbs]
@[simp] theorem x_listL {ds : List D} : oListOf (.lst ds) R = R (.bl ds) := rfl
@[simp] theorem x_listT {ds : List D} : oListOf (.tup ds) R = R (.bl ds) := rfl
@[simp] theorem x_tupL {ds : List D} : oTupOf (.lst ds) R = R (.frz (.tup ds)) := rfl
@[simp] theorem x_tupT {ds : List D} : oTupOf (.tup ds) R = R (.frz (.tup ds)) := rfl
@[simp] theorem x_ixD {kvs : List (Key × D)} {k : Str} : oIx (.dct kvs) (.str k) R = ∃ x, look kvs (.inr k) = some x ∧ R (.frz x) := by simp [oIx, oIxL, oIxT, oIxS, oIxR, oIxD, D.key]
@[simp] theorem x_ixL {ds : List D} {i : Int} : oIx (.lst ds) (.int i) R = ∃ x, atI ds i = some x ∧ R (.frz x) := by simp [oIx, oIxL, oIxT, oIxS, oIxR, oIxD]
@[simp] theorem x_slL {ds : List D} {lo hi : Option Int} : oSl (.lst ds) lo hi R = R (.bl (cutL ds lo hi)) := by simp [oSl, oSlL, oSlT, oSlS, oSlR]
@[simp] theorem x_slR {ns : List Int} {lo hi : Option Int} : oSl (.scr ns) lo hi R = R (.bl ((cutL ns lo hi).map D.int)) := by simp [oSl, oSlL, oSlT, oSlS, oSlR]
@[simp] theorem x_split {s b : Str} : oSplit s [.str b] R = ((b.length == 0) = false ∧ s.length + 2 ≤ sizeLine ∧ R (.bl ((Txt.split s b).map D.str))) := by simp [oSplit]
@[simp] theorem x_append {ds : List D} {e : D} {R : D → T → Prop} : oAppend (.bl ds) [e] R = (ds.length < sizeLine ∧ R .non (.bl (ds ++ [e]))) := by simp [oAppend]
@[simp] theorem x_putD {kvs : List (Key × D)} {k : Str} {d : D} : oPut (.bd kvs) (.str k) d R = (kvs.length < sizeLine ∧ R (.bd (putD kvs (.inr k) d))) := by simp [oPut, oPutL, oPutD, D.key]
@[simp] theorem x_putL {ds : List D} {k : Int} {d : D} : oPut (.bl ds) (.int k) d R = ∃ j, ixN ds.length k = some j ∧ R (.bl (ds.set j d)) := by simp [oPut, oPutL, oPutD]
end
end VL
set_option Elab.async false
set_option linter.all false
set_option autoImplicit false
set_option maxRecDepth 100000
set_option maxHeartbeats 4000000
/-! VL22: more of the combinators' equations. -/
namespace VL
open PySem PySem.Spec PySem.Calls L2
open PyProof.Rows hiding St

section
variable {Γ : Sl} {R : T → Sl → Prop} {XR : XRl} {i j l : Nat} {m n : ME} {M : VEnds} {t : T} {d e : D}
@[simp] theorem x_par3 {g : MA} : sPar3 i j l g Γ M = g Γ (fun ts Γ' => ∃ a b c, ts = [a, b, c] ∧ i < Γ'.length ∧ j < Γ'.length ∧ l < Γ'.length ∧ M.nx (((Γ'.set i (some a)).set j (some b)).set l (some c))) M.xr := rfl
@[simp] theorem x_seqL {ds : List D} {k : List D → Prop} : (D.lst ds).seqL k = k ds := rfl
@[simp] theorem x_seqR {ns : List Int} {k : List D → Prop} : (D.scr ns).seqL k = k (ns.map D.int) := rfl
@[simp] theorem x_seqT {ds : List D} {k : List D → Prop} : (D.tup ds).seqT k = k ds := rfl
@[simp] theorem x_iL {R : List D → Sl → Prop} : iL m Γ R XR = m Γ (fun t Γ' => t.toD.seqL fun ds => R ds Γ') XR := rfl
@[simp] theorem x_iT {R : List D → Sl → Prop} : iT m Γ R XR = m Γ (fun t Γ' => t.toD.seqT fun ds => R ds Γ') XR := rfl
@[simp] theorem x_iS {R : List D → Sl → Prop} : iS m Γ R XR = m Γ (fun t Γ' => t.tS fun s => R (strD s) Γ') XR := by unfold iS; simp only [tS_eq]
@[simp] theorem x_iEn {g : MA} {R : List D → Sl → Prop} : iEn g Γ R XR = g Γ (fun ts Γ' => ∃ d, ts.map T.toD = [d] ∧ d.seqL fun ds => R (enumD 0 ds) Γ') XR := rfl
@[simp] theorem x_iR1 {g : MA} {R : List D → Sl → Prop} : iR1 g Γ R XR = g Γ (fun ts Γ' => ∃ j : Int, ts.map T.toD = [.int j] ∧ -(2 ^ 62) ≤ j ∧ j < 2 ^ 62 ∧ R (rngD 0 j.toNat) Γ') XR := rfl
@[simp] theorem x_lc {mi : MI} {g : MG1} {tt : MT} {te : ME} {vs : List Nat} : mLc mi g tt te vs Γ R XR = mi Γ (fun ds Γ' => lcL g tt te vs (fun acc Γ'' => R (.bl acc) Γ'') ds [] (wipeS Γ' vs)) XR := rfl
@[simp] theorem x_yes {R : Bool → Sl → Prop} : mYes Γ R XR = R true Γ := rfl
@[simp] theorem x_wip0 : wipeS Γ [] = Γ := rfl
@[simp] theorem x_wips {vs : List Nat} : wipeS Γ (i :: vs) = (wipeS Γ vs).set i none := rfl
@[simp] theorem x_disp0 {R : List (Key × D) → Sl → Prop} : mDisp [] Γ R XR = R [] Γ := rfl
@[simp] theorem x_disps {k : Key} {r : List (Key × ME)} {R : List (Key × D) → Sl → Prop} : mDisp ((k, m) :: r) Γ R XR = m Γ (fun t Γ' => mDisp r Γ' (fun kvs Γ2 => R ((k, t.toD) :: kvs) Γ2) XR) XR := rfl
@[simp] theorem x_dct {r : List (Key × ME)} : mDct r Γ R XR = mDisp r Γ (fun kvs Γ' => R (.bd (mergeD kvs)) Γ') XR := rfl
@[simp] theorem x_raise {m : MX} : sRaise m Γ M = m Γ (fun C fs Γ' => M.xr C fs Γ') M.xr := rfl
@[simp] theorem x_mxC {C : Addr} {n : Nat} {ok : List D → (List (Str × D) → Prop) → Prop} {g : MA} {R : Addr → List (Str × D) → Sl → Prop} : mxC C n ok g Γ R XR = g Γ (fun ts Γ' => ts.length = n ∧ ok (ts.map T.toD) fun fs => R C fs Γ') XR := rfl
@[simp] theorem x_repr {g : Str → Str → Bool} : mRepr g m n Γ R XR = m Γ (fun ta Γ1 => ∃ p, ta.toD.py = some p ∧ ShOk p ∧ n Γ1 (fun tb Γ2 => ∃ q, tb.toD.py = some q ∧ ShOk q ∧ R (.frz (.bl (g p.shown q.shown))) Γ2) XR) XR := rfl
@[simp] theorem x_try {K : PySem.W.Frag} {c : Value} {mb : MS} {ms : MU} : sTryAs K c i mb ms Γ M = mb Γ { M with xr := fun C fs Γ' => ∃ b, PySem.W.exmOne K (.ref C) c = some b ∧ (b = true → i < Γ'.length ∧ ∀ a d, ms a C d (Γ'.set i (some (.frz (.exc a C d fs)))) { nx := fun Γ2 => M.nx (Γ2.set i none), rt := M.rt, bk := fun Γ2 => M.bk (Γ2.set i none), ct := fun Γ2 => M.ct (Γ2.set i none), xr := noX }) ∧ (b = false → M.xr C fs Γ') } := rfl
@[simp] theorem x_make {C : Addr} {sp : VSp} {g : MG} : mMake C sp g Γ R XR = g Γ (fun as Γ' => argT as Γ' fun ts => sp (.bo C [] :: ts) (fun r Γp => r = .frz .non ∧ ∃ t Γq, Γp = some t :: Γq ∧ R t (wb as Γq (clr as Γ'))) (fun C fs Γp => XR C fs (wb as Γp.tail (clr as Γ')))) XR := rfl
@[simp] theorem x_fldS {Cs : List Addr} {f : Str} : sFldS i Cs f m Γ M = m Γ (fun t Γ' => slT Γ' i fun s => ∃ C fs, s = .bo C fs ∧ C ∈ Cs ∧ fs.length < 1000 ∧ M.nx (Γ'.set i (some (.bo C (putT f t fs))))) M.xr := by
  unfold sFldS
  congr 1
  funext t Γ'
  apply propext
  unfold slT
  constructor
  · rintro ⟨C, fs, e, h⟩; rw [e]; exact ⟨C, fs, rfl, h⟩
  · intro h
    split at h
    · rename_i s e
      obtain ⟨C, fs, rfl, h⟩ := h
      exact ⟨C, fs, e, h⟩
    · exact h.elim
@[simp] theorem x_atrN {Cs : List Addr} {f : Str} : mAtr Cs f (.nm i) Γ R XR = slT Γ i fun t => t.fld Cs f fun d => R (.frz d) Γ := rfl
@[simp] theorem x_atrE {Cs : List Addr} {f : Str} : mAtr Cs f (.ex m) Γ R XR = m Γ (fun t Γ' => t.fld Cs f fun d => R (.frz d) Γ') XR := rfl
end
section
variable {R : T → Prop} {i j : Int}
@[simp] theorem x_popAt {ds : List D} {R : D → T → Prop} : oPopAt (.bl ds) [.int i] R = (-(2 ^ 63) ≤ i ∧ i < 2 ^ 63 ∧ ∃ k e, seqIndex? i ds.length = some k ∧ ds[k]? = some e ∧ R e (.bl (ds.eraseIdx k))) := by
  apply propext
  constructor
  · rintro ⟨_, _, k, e, e1, e2, h1, h2, h3, h4, h⟩
    cases e1; cases e2
    exact ⟨h1, h2, k, e, h3, h4, h⟩
  · rintro ⟨h1, h2, k, e, h3, h4, h⟩
    exact ⟨_, _, k, e, rfl, rfl, h1, h2, h3, h4, h⟩
theorem dstr_inj : ∀ {a b : List Str}, a.map D.str = b.map D.str → a = b
  | [], [], _ => rfl
  | [], _ :: _, h => by cases h
  | _ :: _, [], h => by cases h
  | _ :: _, _ :: _, h => by
    simp only [List.map_cons, List.cons.injEq, D.str.injEq] at h
    rw [h.1, dstr_inj h.2]
@[simp] theorem x_joinL {s : Str} {ys : List Str} : oJoin s [.lst (ys.map D.str)] R = ((ys.map (·.length)).sum + ys.length * s.length ≤ 16777216 ∧ R (.frz (.str (Txt.join s ys)))) := by
  apply propext
  constructor
  · rintro ⟨zs, e | e, h⟩
    · simp only [List.cons.injEq, D.lst.injEq, and_true] at e
      rw [dstr_inj e]; exact h
    · simp at e
  · intro h; exact ⟨ys, .inl rfl, h⟩
theorem dbl_inj : ∀ {a b : List Bool}, a.map D.bl = b.map D.bl → a = b
  | [], [], _ => rfl
  | [], _ :: _, h => by cases h
  | _ :: _, [], h => by cases h
  | _ :: _, _ :: _, h => by
    simp only [List.map_cons, List.cons.injEq, D.bl.injEq] at h
    rw [h.1, dbl_inj h.2]
@[simp] theorem x_all {bs : List Bool} : oAll (.lst (bs.map D.bl)) R = R (.frz (.bl (bs.all id))) := by
  apply propext
  constructor
  · rintro ⟨zs, e, h⟩
    simp only [D.lst.injEq] at e
    rw [dbl_inj e]; exact h
  · intro h; exact ⟨bs, rfl, h⟩
theorem atI_ok {α : Type} {l : List α} {i : Int} (h : 0 ≤ i) (h2 : i < l.length) : atI l i = l[i.toNat]? := by
  have e2 : ixN l.length i = some i.toNat := by
    unfold ixN
    rw [if_pos h, if_pos h2]
  show (ixN l.length i).bind _ = _
  rw [e2]; rfl
theorem atI_mem {α : Type} {l : List α} {i : Int} (h : 0 ≤ i) (h2 : i < l.length) : ∃ x, atI l i = some x ∧ x ∈ l := by
  rw [atI_ok h h2, List.getElem?_eq_getElem (by omega)]
  exact ⟨_, rfl, List.getElem_mem _⟩
theorem sqi_ok {n : Nat} (h : 0 ≤ i) (h2 : i < n) : seqIndex? i n = some i.toNat := by
  unfold seqIndex?
  simp [Int.not_lt.2 h, h, h2]
theorem cut_to {α : Type} {l : List α} (h : 0 ≤ i) : cutL l none (some i) = l.take i.toNat := by
  unfold cutL HT.sIx
  simp [Int.not_lt.2 h]
theorem cut_from {α : Type} {l : List α} (h : 0 ≤ i) : cutL l (some i) none = l.drop i.toNat := by
  unfold cutL HT.sIx
  simp [Int.not_lt.2 h]
  rw [List.take_of_length_le (by simp)]
  rcases Nat.le_total i.toNat l.length with h | h
  · rw [Nat.min_eq_left h]
  · rw [Nat.min_eq_right h, List.drop_length, List.drop_of_length_le h]
theorem cut_mid {α : Type} {l : List α} (h : 0 ≤ i) (h2 : 0 ≤ j) : cutL l (some i) (some (i + j)) = (l.drop i.toNat).take j.toNat := by
  unfold cutL HT.sIx
  simp only [Int.not_lt.2 h, Int.not_lt.2 (Int.add_nonneg h h2), if_false]
  rcases Nat.le_total i.toNat l.length with h3 | h3
  · rw [Nat.min_eq_left h3]
    rcases Nat.le_total (i + j).toNat l.length with h4 | h4
    · rw [Nat.min_eq_left h4]
      congr 1
      omega
    · rw [Nat.min_eq_right h4, List.take_of_length_le (by simp), List.take_of_length_le (by simp; omega)]
  · rw [Nat.min_eq_right h3, List.drop_length, List.drop_of_length_le h3]
    simp
end
theorem eqb_flat {d : D} (h : ∃ p, d.py = some p ∧ p.depth ≤ 64) : Eqb d := h
@[simp] theorem eqb_int {i : Int} : Eqb (.int i) := ⟨_, rfl, by simp [PyData.depth]⟩
@[simp] theorem eqb_str {s : Str} : Eqb (.str s) := ⟨_, rfl, by simp [PyData.depth]⟩
@[simp] theorem eqb_bl {b : Bool} : Eqb (.bl b) := ⟨_, rfl, by simp [PyData.depth]⟩
theorem pys_strs : ∀ l : List Str, D.pys (l.map D.str) = some (l.map PyData.str)
  | [] => rfl
  | a :: l => by simp [D.pys, D.py, pys_strs l]
theorem py_strs (l : List Str) : (D.lst (l.map D.str)).py = some (.list (l.map PyData.str)) := by simp [D.py, pys_strs]
theorem depth_strs : ∀ l : List Str, PyData.depthAll (l.map PyData.str) ≤ 1
  | [] => by simp [PyData.depthAll]
  | a :: l => by have := depth_strs l; simp [PyData.depthAll, PyData.depth]; omega
@[simp] theorem eqb_strs (l : List Str) : Eqb (.lst (l.map D.str)) := ⟨_, py_strs l, by have := depth_strs l; simp [PyData.depth]; omega⟩
theorem beq_dec {α : Type} [BEq α] [LawfulBEq α] [DecidableEq α] (a b : α) : (a == b) = decide (a = b) := by
  by_cases h : a = b
  · subst h; rw [beq_self_eq_true, decide_eq_true rfl]
  · rw [decide_eq_false h]; exact beq_false_of_ne h
theorem eqD_int {i j : Int} : eqD (.int i) (.int j) = decide (i = j) := beq_dec i j
theorem eqD_str {i j : Str} : eqD (.str i) (.str j) = decide (i = j) := beq_dec i j
theorem eqD_bl {i j : Bool} : eqD (.bl i) (.bl j) = decide (i = j) := beq_dec i j
theorem eqvAll_strs : ∀ a b : List Str, PyData.eqvAll (a.map PyData.str) (b.map PyData.str) = decide (a = b)
  | [], [] => rfl
  | [], _ :: _ => rfl
  | _ :: _, [] => rfl
  | x :: a, y :: b => by
    show ((x == y) && PyData.eqvAll (a.map PyData.str) (b.map PyData.str)) = _
    rw [eqvAll_strs a b, beq_dec]
    by_cases h : x = y <;> by_cases h2 : a = b <;> simp [h, h2]
theorem eqD_strs (a b : List Str) : eqD (.lst (a.map D.str)) (.lst (b.map D.str)) = decide (a = b) := by
  unfold eqD
  rw [py_strs, py_strs]
  exact eqvAll_strs a b
end VL
set_option Elab.async false
set_option linter.all false
set_option autoImplicit false
set_option maxRecDepth 100000
set_option maxHeartbeats 4000000
/-! VL23: tests at constructors. -/
namespace VL
open PySem PySem.Spec PySem.Calls L2
open PyProof.Rows hiding St

@[simp] theorem ex2 {α β : Type} {x : α} {y : β} {P : α → β → Prop} : (∃ a b, (x = a ∧ y = b) ∧ P a b) = P x y := by
  apply propext
  constructor
  · rintro ⟨_, _, ⟨rfl, rfl⟩, h⟩; exact h
  · intro h; exact ⟨_, _, ⟨rfl, rfl⟩, h⟩
@[simp] theorem ex3 {α β γ : Type} {x : α} {y : β} {z : γ} {P : α → β → γ → Prop} : (∃ a b c, (x = a ∧ y = b ∧ z = c) ∧ P a b c) = P x y z := by
  apply propext
  constructor
  · rintro ⟨_, _, _, ⟨rfl, rfl, rfl⟩, h⟩; exact h
  · intro h; exact ⟨_, _, _, ⟨rfl, rfl, rfl⟩, h⟩
theorem pys_len : ∀ {ds : List D} {ps : List PyData}, D.pys ds = some ps → ps.length = ds.length
  | [], ps, h => by simp only [D.pys, Option.some.injEq] at h; subst h; rfl
  | d :: ds, ps, h => by
    simp only [D.pys] at h
    cases e : d.py with
    | none => rw [e] at h; simp at h
    | some p =>
      cases e2 : D.pys ds with
      | none => rw [e, e2] at h; simp at h
      | some qs =>
        rw [e, e2] at h
        simp only [Option.some.injEq] at h
        subst h
        simp [pys_len e2]
theorem eqD_nil {es : List D} (h : Eqb (.lst es)) : eqD (.lst es) (.lst []) = es.isEmpty := by
  obtain ⟨p, hp, _⟩ := h
  have h2 : (D.lst []).py = some (.list []) := rfl
  unfold eqD
  rw [h2]
  simp only [D.py] at hp ⊢
  cases e : D.pys es with
  | none => rw [e] at hp; cases hp
  | some ps =>
    have := pys_len e
    cases es with
    | nil => cases ps with
      | nil => rfl
      | cons a l => simp at this
    | cons a l => cases ps with
      | nil => simp at this
      | cons b m => rfl
@[simp] theorem eqb_nilL : Eqb (.lst []) := eqb_strs []
section
variable {R : T → Prop} {i j : Int} {s z : Str} {a b : List Str} {c : Nat}
@[simp] theorem x_eqI : oEq (.int i) (.int j) R = R (.frz (.bl (decide (i = j)))) := by simp [oEq, eqD_int]
@[simp] theorem x_neI : oNe (.int i) (.int j) R = R (.frz (.bl (!decide (i = j)))) := by simp [oNe, eqD_int]
@[simp] theorem x_eqS : oEq (.str s) (.str z) R = R (.frz (.bl (decide (s = z)))) := by simp [oEq, eqD_str]
@[simp] theorem x_neS : oNe (.str s) (.str z) R = R (.frz (.bl (!decide (s = z)))) := by simp [oNe, eqD_str]
@[simp] theorem x_eqN : oEq (.lst (a.map D.str)) (.lst []) R = R (.frz (.bl a.isEmpty)) := by
  have := eqD_nil (eqb_strs a)
  simp [oEq, this]
@[simp] theorem x_neN : oNe (.lst (a.map D.str)) (.lst []) R = R (.frz (.bl !a.isEmpty)) := by
  have := eqD_nil (eqb_strs a)
  simp [oNe, this]
@[simp] theorem x_eqL1 : oEq (.lst (a.map D.str)) (.lst [.str s]) R = R (.frz (.bl (decide (a = [s])))) := by
  have := eqD_strs a [s]
  have h2 := eqb_strs [s]
  simp only [List.map] at this h2
  simp [oEq, this, h2]
theorem any_strs : ((a.map D.str).any fun z => eqD z (.str s)) = decide (s ∈ a) := by
  induction a with
  | nil => rfl
  | cons x a ih =>
    simp only [List.map_cons, List.any_cons, ih, eqD_str, List.mem_cons]
    by_cases h : x = s
    · subst h; simp
    · simp [h, Ne.symm h]
theorem any_strs' : (a.any ((fun z => eqD z (.str s)) ∘ D.str)) = decide (s ∈ a) := by rw [← any_strs, List.any_map]
theorem flat_strs : (a.map D.str).all D.flat = true := by
  induction a with
  | nil => rfl
  | cons x a ih => simp only [List.map_cons, List.all_cons, ih]; rfl
@[simp] theorem x_inL : oIn (.str s) (.lst (a.map D.str)) R = R (.frz (.bl (decide (s ∈ a)))) := by
  simp [oIn, oInL, oInT, oInS, oInD, any_strs']
@[simp] theorem x_ninL : oNin (.str s) (.lst (a.map D.str)) R = R (.frz (.bl (!decide (s ∈ a)))) := by
  simp [oNin, oNinL, oNinT, oNinS, oNinD, any_strs']
@[simp] theorem x_inT : oIn (.str s) (.tup (a.map D.str)) R = R (.frz (.bl (decide (s ∈ a)))) := by
  have h : (D.str s).flat = true := rfl
  have h2 : ∀ x : Str, x ∈ a → (D.str x).flat = true := fun _ _ => rfl
  simp [oIn, oInL, oInT, oInS, oInD, any_strs', h]
  exact fun _ => h2
@[simp] theorem x_ninT : oNin (.str s) (.tup (a.map D.str)) R = R (.frz (.bl (!decide (s ∈ a)))) := by
  have h : (D.str s).flat = true := rfl
  have h2 : ∀ x : Str, x ∈ a → (D.str x).flat = true := fun _ _ => rfl
  simp [oNin, oNinL, oNinT, oNinS, oNinD, any_strs', h]
  exact fun _ => h2
@[simp] theorem x_inS : oIn (chD c) (.str z) R = R (.frz (.bl (decide (c ∈ z.cps.toList)))) := by
  unfold chD
  simp [oIn, oInL, oInT, oInS, oInD]
@[simp] theorem x_ninS : oNin (chD c) (.str z) R = R (.frz (.bl (!decide (c ∈ z.cps.toList)))) := by
  unfold chD
  simp [oNin, oNinL, oNinT, oNinS, oNinD]
end
end VL
set_option Elab.async false
set_option linter.all false
set_option autoImplicit false
set_option maxRecDepth 100000
set_option maxHeartbeats 4000000
/-! VL24: what may be shown. -/
namespace VL
open PySem PySem.Spec PySem.Calls L2
open PyProof.Rows hiding St
theorem shOk_of {p : PyData} (h1 : p.showable = true) (h2 : p.depth ≤ 64) (h3 : p.weight ≤ 2 ^ 20) (h4 : p.intsShort 13 = true) : ShOk p :=
  ⟨h1, h2, fun cl => Nat.le_trans (shown_le13 (by unfold PyData.layable0; rw [cl, decide_eq_true h2, decide_eq_true h3]; rfl) h4) (by decide +kernel)⟩
theorem showable_strs : ∀ l : List Str, PyData.showableAll (l.map PyData.str) = true
  | [] => rfl
  | a :: l => by simp [PyData.showableAll, PyData.showable, showable_strs l]
theorem intsShort_strs (k : Nat) : ∀ l : List Str, PyData.intsShortAll k (l.map PyData.str) = true
  | [] => rfl
  | a :: l => by simp [PyData.intsShortAll, PyData.intsShort, intsShort_strs k l]
theorem weight_strs : ∀ l : List Str, PyData.weightAll (l.map PyData.str) = (l.map (·.length)).sum + l.length
  | [] => rfl
  | a :: l => by simp [PyData.weightAll, PyData.weight, weight_strs l, Str.length]; omega
end VL
set_option Elab.async false
set_option linter.all false
set_option autoImplicit false
set_option maxRecDepth 100000
set_option maxHeartbeats 4000000
/-! VL25: the end of a law: the script handed in; facts told by a Hook of our own. -/
namespace VL
open PySem PySem.Spec PySem.Calls L2
open PyProof.Rows hiding St
section
variable {P : Program} {w : World} {K : PySem.W.Frag} {mg mb : Str → Option Value} {k : Nat} {fL aS : Addr} {fd : FuncData} {x : Str} {sp : VSp} {sB : Shared} {us : List Value} {ns : List Int}
/-- what the law must give behind the top -/
abbrev GivesTrue (sB : Shared) (res : Result) (sE : Shared) : Prop := res = .ok (.ret (.bool true)) ∧ OldK sB.heap sE.heap ∧ sE.os = sB.os ∧ AllBare sE.gens
theorem law_at (H : Hp) (hA : ∀ b o, H b = some o → b = aS ∧ ∃ oo xs, o = .frz oo (.lst xs)) (hK : H aS ≠ none → K.lookup aS = none) (hS : SqL K H aS (ns.map V.int)) (hok : HOk P w H sB.heap)
    (inK : K.In sB.heap) (nsG : sB.heap.Ns mainGlobals mg) (nsB : sB.heap.Ns builtinsNs mb) (bb : ∀ y : Str, y ≠ "__name__" → mb y = bootBuiltins y) (lim : sB.heap.NoLimit) (noGen : sB.gens = #[])
    (obj : sB.heap.get? aS = some { cls := .type "list", data := .seq us.toArray }) (hr : RoomG k callerA)
    (G : ∀ base : Heap, K.In base → base.Ns mainGlobals mg → FnG P w K mg base k fL fd [x] (lift K 1 sp)) (bd : ∀ (s : Shared) (u : Value), BindsTo s fd ⟨[u], []⟩ [(x, u)])
    (good : sp [.frz (.scr ns)] (fun t _ => t = .frz (.bl true)) fun _ _ _ => False) : codeAny (model P w) callerA (.call (.ref fL) ⟨[.ref aS], []⟩) (GivesTrue sB) sB := by
  have free : ∀ {b : Addr} {o : Obj}, sB.heap.get? b = some o → o ≠ { cls := .type "list", data := .seq us.toArray } → H b = none := fun {b o} e ne => by
    cases q : H b with
    | none => rfl
    | some z =>
      obtain ⟨rfl, _⟩ := hA b z q
      exact absurd (Option.some.inj (e.symm.trans obj)) ne
  have low : ∀ {b : Addr} {o : Obj}, sB.heap.get? b = some o → H b = none → (hidT sB.heap H).get? b = some o := fun e z => hidT_get e z
  have kNs : ∀ {b : Addr} {m : Str → Option Value}, sB.heap.Ns b m → (hidT sB.heap H).Ns b m := fun {b m} ⟨o, es, ep, e, d, r⟩ =>
    ⟨o, es, ep, low e (free e fun z => by rw [z] at d; cases d), d, r⟩
  have kIn : K.In (hidT sB.heap H) := fun b o e => low (inK b o e) (by
    cases q : H b with
    | none => rfl
    | some z =>
      obtain ⟨rfl, _⟩ := hA b z q
      rw [hK (by rw [q]; exact fun z => nomatch z)] at e
      cases e)
  have modl : Mod K mg (hidT sB.heap H) := ⟨kIn, kNs nsG, ⟨mb, kNs nsB, bb⟩, let ⟨mc, l1, l2⟩ := lim; ⟨mc, kNs l1, l2⟩⟩
  have env0 : Env0 P w K mg (hidT sB.heap H) callerA [] sB H := ⟨rfl, modl, fun b o e => of_hidT e, Nat.le_of_eq (hidT_size _ _), trivial, fun b z => absurd (show b ∈ ([] : List Addr) from z) List.not_mem_nil, hok, .of_eq noGen⟩
  have prom : lift K 1 sp [.ref aS] H (fun v _ => v = .bl true) fun _ _ _ => False :=
    ⟨H, [.frz (.scr ns)], [], _, _, rfl, fun _ _ e => e, Rps.cons (.frz (.scr hS)) .nil (by simp), good, fun Z' H' v r Γ' F' _ _ _ _ rp _ hR => by
      subst hR
      cases rp with
      | frz q => cases q; rfl, fun _ _ _ _ _ _ _ _ _ _ _ z => z.elim⟩
  refine codeAny_mono ((G _ kIn (kNs nsG)).run callerA [] sB H ⟨[.ref aS], []⟩ [.ref aS] [.ref aS] _ _ hr env0 (bd sB (.ref aS)) (Paired.cons rfl Paired.nil) prom) fun res sE z => ?_
  cases res with
  | error u =>
    obtain ⟨_, _, _, _, _, _, _, _, _, _, _, _, z⟩ := z
    exact z.elim
  | ok fl =>
    cases fl with
    | ret u =>
      obtain ⟨v, H2, os, bare, un, hok2, rv, rfl⟩ := z
      obtain rfl : u = Value.bool true := rv
      refine ⟨rfl, OldK.of_keep fun b o e => ?_, os, bare⟩
      cases q : H b with
      | none => exact un.keep b o e q (fun z => absurd (show b ∈ ([] : List Addr) from z) List.not_mem_nil) (by simp)
      | some z =>
        obtain ⟨rfl, oo, xs, rfl⟩ := hA b z q
        have q2 := un.frzs b oo _ q
        have o1 := (hok b _ q).1
        have o2 := (hok2 b _ q2).1
        rw [← Option.some.inj (o1.symm.trans e)]
        exact o2
    | next => exact z.elim
    | brk => exact z.elim
    | cont => exact z.elim
theorem law_in (inK : K.In sB.heap) (nsG : sB.heap.Ns mainGlobals mg) (nsB : sB.heap.Ns builtinsNs mb) (bb : ∀ y : Str, y ≠ "__name__" → mb y = bootBuiltins y) (lim : sB.heap.NoLimit) (noGen : sB.gens = #[])
    (obj : sB.heap.get? aS = some { cls := .type "list", data := .seq us.toArray }) (is : IntsAre us ns) (short : ns.length ≤ sizeLine) (hr : RoomG k callerA)
    (G : ∀ base : Heap, K.In base → base.Ns mainGlobals mg → FnG P w K mg base k fL fd [x] (lift K 1 sp)) (bd : ∀ (s : Shared) (u : Value), BindsTo s fd ⟨[u], []⟩ [(x, u)])
    (good : sp [.frz (.scr ns)] (fun t _ => t = .frz (.bl true)) fun _ _ _ => False) : codeAny (model P w) callerA (.call (.ref fL) ⟨[.ref aS], []⟩) (GivesTrue sB) sB := by
  have rv : Vals (ns.map V.int) us := vals_ints is
  by_cases hk : K.lookup aS = none
  · refine law_at (fun b => if b = aS then some (.frz { cls := .type "list", data := .seq us.toArray } (.lst (ns.map V.int))) else none) (fun b o e => ?_) (fun _ => hk) (.inl (.inr ⟨_, if_pos rfl⟩)) (fun b o e => ?_) inK nsG nsB bb lim noGen obj hr G bd good
    · by_cases hb : b = aS
      · exact ⟨hb, _, _, (Option.some.inj ((if_pos hb).symm.trans e)).symm⟩
      · exact nomatch (if_neg hb).symm.trans e
    · by_cases hb : b = aS
      · have e := (if_pos hb).symm.trans e
        cases e
        subst hb
        exact ⟨obj, by rw [List.length_map]; exact short, us, _, rv, obj⟩
      · exact nomatch (if_neg hb).symm.trans e
  · obtain ⟨o, ho⟩ := Option.ne_none_iff_exists'.1 hk
    have e := Option.some.inj ((inK aS o ho).symm.trans obj)
    subst e
    exact law_at (fun _ => none) (fun b o e => nomatch e) (fun z => absurd rfl z) (.inr ⟨_, us.toArray, _, ho, rfl, rfl, rfl, by rw [List.size_toArray, is.length]; exact short, by simpa using rv⟩) (fun b o e => nomatch e) inK nsG nsB bb lim noGen obj hr G bd good
end
/-- a law's end: F gives the part of the heap, the function object and the promise -/
theorem walkG {l : PySem.W.OpenLaw} {n k : Nat} {q : Program} {loose : List Str} {XP : (Str → Option Value) → Heap → Prop} {YP : World → Heap → Prop} {d : DefRec} {x : Str} {sp : PySem.W.Frag → VSp}
    (hn : l.most = some n) (hn2 : n ≤ sizeLine) (hdf : d.params.defaults = []) (hr : RoomG k callerA)
    (F : ∀ (w : World) (mg : Str → Option Value) (fL : Addr) (h : Heap), YP w h → h.Ns mainGlobals mg → mg d.name = some (.ref fL) →
      ∃ (K : PySem.W.Frag) (fd : FuncData), K.In h ∧ (∀ (s : Shared) (u : Value), BindsTo s fd ⟨[u], []⟩ [(x, u)]) ∧ ∀ base : Heap, K.In base → base.Ns mainGlobals mg → FnG l.prog w K mg base k fL fd [x] (lift K 1 (sp K)))
    (good : ∀ (K : PySem.W.Frag) (ns : List Int), ns.length ≤ n → (∀ z ∈ ns, Builtin.Int.intBits z ≤ 1048576) → sp K [.frz (.scr ns)] (fun t _ => t = .frz (.bl true)) fun _ _ _ => False) :
    PySem.W.WalkO q loose XP YP l.row.toRowW d [] (fun f vs => PySem.call f vs) := by
  refine Att.attach_callB hn hdf fun w s₀ sB mg mb fL o pm cd doc aS us ns top Y ho hd hcd hmg obj is short bits noGen => ?_
  obtain ⟨K, fd, inK, bd, G⟩ := F w mg fL _ Y top.T.g hmg
  exact law_in inK top.T.g top.T.b top.T.builtins top.T.nolimit noGen obj is (Nat.le_trans short hn2) hr G bd (good K ns short bits)
end VL
set_option Elab.async false
set_option linter.all false
set_option autoImplicit false
set_option maxRecDepth 100000
set_option maxHeartbeats 4000000
/-! VL26: the facts that the head tells, each by a look at a part of the heap. -/
namespace VL
open PySem PySem.Spec PySem.Calls L2
open PyProof.Rows hiding St
section
variable {K : PySem.W.Frag} {C g : Addr}
def foundB (K : PySem.W.Frag) (C : Addr) (m : Str) (v : Option Value) : Bool := He.eqO (PySem.W.findIn K (.ref C) m) (some v)
theorem foundB_ok {m : Str} {v : Option Value} (h : foundB K C m v = true) : PySem.W.findIn K (.ref C) m = some v := He.eqO_ok h
def clsB (K : PySem.W.Frag) (C : Addr) : Bool := (PySem.W.plainGet K C Str.empty && PySem.W.hasDictIn K C) && (PySem.W.plainOver K C && foundB K C "__setattr__" (some (.builtin "object.__setattr__")))
theorem clsB_ok (h : clsB K C = true) : Cls K C := by
  obtain ⟨h1, h2⟩ := He.ba h
  exact ⟨(He.ba h1).1, (He.ba h1).2, (He.ba h2).1, foundB_ok (He.ba h2).2⟩
def fldB (K : PySem.W.Frag) (C : Addr) (f : Str) : Bool := clsB K C && foundB K C f none
theorem fldB_ok {f : Str} (h : fldB K C f = true) : FldOk K [C] f := fun D hD => by
  rw [List.mem_singleton.1 hD]
  exact ⟨clsB_ok (He.ba h).1, foundB_ok (He.ba h).2⟩
def mkB (K : PySem.W.Frag) (C f : Addr) : Bool := (PySem.W.makesIn K C && foundB K C "__init__" (some (.ref f))) && (PySem.W.isFn K (.ref f) && PySem.W.keepIn K (.ref C))
theorem mkB_ok {f : Addr} (h : mkB K C f = true) : Mk K C f := by
  obtain ⟨h1, h2⟩ := He.ba h
  exact ⟨(He.ba h1).1, foundB_ok (He.ba h1).2, (He.ba h2).1, (He.ba h2).2⟩
def boolB (a : Option Bool) (b : Bool) : Bool := decide (a = some b)
def getB (K : PySem.W.Frag) : Bool := He.eqO (PySem.W.specialIn K (.builtin "object.__class__") "__get__") (some (some (.builtin "getset_descriptor.__get__"))) && boolB (PySem.W.takesIn K (.builtin "object.__class__")) true
def insB (K : PySem.W.Frag) (C : Addr) : Bool := clsB K C && (foundB K C "__class__" (some (.builtin "object.__class__")) && (getB K && boolB (PySem.W.mroIn K C (.type "object")) true))
theorem insB_ok (h : insB K C = true) : InsC K C := by
  obtain ⟨h1, h⟩ := He.ba h
  obtain ⟨h2, h⟩ := He.ba h
  obtain ⟨h3, h4⟩ := He.ba h
  exact ⟨clsB_ok h1, foundB_ok h2, He.eqO_ok (He.ba h3).1, of_decide_eq_true (He.ba h3).2, of_decide_eq_true h4⟩
def ownEqB (K : PySem.W.Frag) (C g : Addr) : Bool := (foundB K C "__eq__" (some (.ref g)) && PySem.W.isFn K (.ref g)) && (foundB K C "__ne__" (some (.builtin "object.__ne__")) && boolB (PySem.W.mroIn K C (.type "object")) true)
theorem ownEqB_ok (h : ownEqB K C g = true) : EqC K C g := by
  obtain ⟨h1, h2⟩ := He.ba h
  exact ⟨foundB_ok (He.ba h1).1, (He.ba h1).2, foundB_ok (He.ba h2).1, of_decide_eq_true (He.ba h2).2⟩
/-- isinstance, the class of an exception -/
def excB (K : PySem.W.Frag) (C : Addr) : Bool := xfB K C && (foundB K C "__class__" (some (.builtin "object.__class__")) && (getB K && boolB (PySem.W.mroIn K C (.type "object")) true))
theorem excB_ok (h : excB K C = true) : ExcC K C ∧ XfC K C := by
  obtain ⟨h1, h⟩ := He.ba h
  obtain ⟨h2, h⟩ := He.ba h
  obtain ⟨h3, h4⟩ := He.ba h
  have x := xfB_ok h1
  exact ⟨⟨x.ga, x.gg, x.exC, x.hdC, foundB_ok h2, He.eqO_ok (He.ba h3).1, of_decide_eq_true (He.ba h3).2, of_decide_eq_true h4⟩, x⟩
/-- the class object of an own exception over ValueError -/
def oexB (K : PySem.W.Frag) (C : Addr) : Bool := (match K.lookup C with
  | some ⟨.type "type", _, .cls ⟨_, _, .ref C' :: bm, _, _, true, _, _, _, _, false⟩, sl⟩ => (match sl.toList with
    | [_, _, _, _, some (.builtin "ValueError.__new__"), _] => C' == C && PySem.HandSPX.refsVE bm
    | _ => false)
  | _ => false) && ((foundB K C "__setattr__" (some (.builtin "object.__setattr__")) && boolB (PySem.W.subIn K (.ref C) (.type "BaseException")) true) && (decide (PySem.W.typeIn K (.ref C) = some (.type "type")) && PySem.W.keepIn K (.ref C)))
theorem oexB_ok (h : oexB K C = true) : OexC K C := by
  obtain ⟨h1, h⟩ := He.ba h
  obtain ⟨h2, h3⟩ := He.ba h
  refine ⟨?_, foundB_ok (He.ba h2).1, of_decide_eq_true (He.ba h2).2, of_decide_eq_true (He.ba h3).1, (He.ba h3).2⟩
  split at h1
  · rename_i dd nm bs C' bm N q sn sub ab col sl e
    split at h1
    · rename_i k0 k1 k2 k3 k5 es
      obtain ⟨h5, h6⟩ := He.ba h1
      have e5 : C' = C := beq_iff_eq.1 h5
      subst e5
      have e7 : sl = #[k0, k1, k2, k3, some (.builtin "ValueError.__new__"), k5] := by
        rw [← Array.toList_inj, es]
      subst e7
      exact ⟨_, _, _, _, _, _, _, _, _, _, _, _, _, _, _, e, h6⟩
    · cases h1
  · cases h1
def xcB (K : PySem.W.Frag) (C f : Addr) : Bool := oexB K C && (foundB K C "__init__" (some (.ref f)) && decide (PySem.W.typeIn K (.ref f) = some (.type "function")))
theorem xcB_ok {f : Addr} (h : xcB K C f = true) : XcC K C f := by
  obtain ⟨h1, h2⟩ := He.ba h
  exact ⟨oexB_ok h1, foundB_ok (He.ba h2).1, of_decide_eq_true (He.ba h2).2⟩
/-! ### an __init__ that calls super().__init__ -/
abbrev SupV : Type := Option (Str × Str × Arguments × FuncBody × Scope × Addr × List Str × Addr)
def supV (K : PySem.W.Frag) (f : Addr) : SupV := match K.lookup f with
  | some ⟨_, _, .func fd, _⟩ => some (fd.name, fd.qualname, fd.params, fd.body, fd.scope, fd.globals, fd.closure.map (·.1), fd.builtins)
  | _ => none
structure SupD where
  cls : Str
  qual : Str
  st : Stmt
def SupD.f (K : PySem.W.Frag) (d : SupD) : Addr := He.fAd K (d.cls, some "__init__")
def SupD.val (d : SupD) : SupV := some (("__init__" : Str), d.qual, defArgs d.st, FuncBody.stmts (defBody d.st), defScope d.st, mainGlobals, ([("__class__" : Str)] : List Str), builtinsNs)
def supB (K : PySem.W.Frag) (file qual : Str) (C f : Addr) : Bool := (match K.lookup f with
  | some ⟨_, _, .func ⟨_, _, _, _, _, _, [(_, cc)], .none, _, _, _, _, .ref cda, _, _⟩, _⟩ => PySem.W.codeIn K (.ref cda) qual && ((match K.lookup cda with
    | some ⟨_, _, .fields us, _⟩ => (match (us[2]? : Option Value) with
      | some (Value.str fl _) => file == fl
      | _ => false)
    | _ => false) && (match K.lookup cc with
    | some ⟨_, _, .cell (some (.ref C')), _⟩ => C' == C
    | _ => false))
  | _ => false) && ((oexB K C && He.eqO (PySem.W.ks_superIn K C C "__init__") (some (some (.builtin "ValueError.__init__")))) && ((He.eqO (PySem.W.nsIn K PySem.cStatics "thirdparty.any") (some none) && boolB (PySem.W.subIn K (.ref C) (.type "ValueError")) true) && (boolB (PySem.W.mroIn K C (.ref C)) true && He.eqO (PySem.W.nsIn K mainGlobals "super") (some none))))
/-- no defaults -/
def PlainX (qual : Str) (st : Stmt) (fd : FuncData) : Prop := ∃ (kV doc pm : Value) (an : Option Addr) (cdv ct : Value) (cc : Addr), fd = PySem.W.ksFn "__init__" qual (defArgs st) (defBody st) (defScope st) .none kV doc pm an cdv ct cc
theorem PlainX.binds {qual : Str} {st : Stmt} {fd : FuncData} {ps : List Str} (h : PlainX qual st fd) (hb : ∀ (kV doc pm : Value) (an : Option Addr) (cdv ct : Value) (cc : Addr) (us : List Value), us.length = ps.length → bindArgs (PySem.W.ksFn "__init__" qual (defArgs st) (defBody st) (defScope st) .none kV doc pm an cdv ct cc) ⟨us, []⟩ = pure (ps.zip us)) : Binds K fd ps [] := by
  obtain ⟨kV, doc, pm, an, cdv, ct, cc, rfl⟩ := h
  exact .all (hb kV doc pm an cdv ct cc)
theorem supB_ok {P : Program} {h : Heap} {mg : Str → Option Value} {qual : Str} {st : Stmt} {f : Addr} (X : K.In h) (G : h.Ns mainGlobals mg) (hp : (P.main.scope.names.lookup ("super" : Str)).isSome = false)
    (hv : supV K f = some (("__init__" : Str), qual, defArgs st, FuncBody.stmts (defBody st), defScope st, mainGlobals, ([("__class__" : Str)] : List Str), builtinsNs)) (hb : supB K P.main.file qual C f = true) :
    ∃ fd, SupF P K mg qual (defArgs st) (defBody st) (defScope st) C f fd ∧ PlainX qual st fd := by
  obtain ⟨h1, hb⟩ := He.ba hb
  obtain ⟨h2, hb⟩ := He.ba hb
  obtain ⟨h3, h4⟩ := He.ba hb
  split at h1
  · rename_i oc od x1 x2 x3 x4 x5 x6 y cc kV doc pm an cda ct bl osl e
    obtain ⟨c1, c2⟩ := He.ba h1
    obtain ⟨c2, c3⟩ := He.ba c2
    unfold supV at hv
    rw [e] at hv
    simp only [List.map_cons, List.map_nil, Option.some.injEq, Prod.mk.injEq, List.cons.injEq, and_true] at hv
    obtain ⟨rfl, rfl, rfl, rfl, rfl, rfl, rfl, rfl⟩ := hv
    refine ⟨_, ⟨⟨oc, od, .none, kV, doc, pm, an, cda, cc, ct, osl, rfl, e, c1, ?_, ?_⟩, oexB_ok (He.ba h2).1, He.eqO_ok (He.ba h2).2, He.eqO_ok (He.ba h3).1, of_decide_eq_true (He.ba h3).2, of_decide_eq_true (He.ba h4).1, PySem.W.mg_none_of X G (He.eqO_ok (He.ba h4).2), hp⟩, kV, doc, pm, an, .ref cda, ct, cc, rfl⟩
    · split at c2
      · rename_i z1 z2 us z3 e2
        split at c2
        · rename_i fl tf e3
          exact ⟨_, _, us, _, fl, tf, e2, e3, c2⟩
        · cases c2
      · cases c2
    · split at c3
      · rename_i z1 z2 C' z3 e2
        have e5 : C' = C := beq_iff_eq.1 c3
        subst e5
        exact ⟨_, _, _, e2⟩
      · cases c3
  · cases h1
end
/-! ### the Hook -/
abbrev AlX : Type := Bool × List He.FnW × List SupV
def obsX (file : Str) (fa : List He.Fa) (fn : List He.DefD) (fs : List SupD) (ex : PySem.W.Frag → Bool) (K : PySem.W.Frag) : AlX :=
  ((fa.all (He.Fa.ok K) && fn.all (He.DefD.ok K)) && (fs.all (fun d => supB K file d.qual (He.ga K d.cls) (d.f K)) && ex K), fn.map (fun d => He.fnW K d.at_), fs.map fun d => supV K (d.f K))
def valX (fn : List He.DefD) (fs : List SupD) : AlX := (true, fn.map He.DefD.val, fs.map SupD.val)
def addrsX (n : Nat) (gt : Addr → Option Obj) : List Addr := He.asD gt n ++ [PySem.cStatics]
def obsXG (n : Nat) (file : Str) (fa : List He.Fa) (fn : List He.DefD) (fs : List SupD) (ex : PySem.W.Frag → Bool) (gt : Addr → Option Obj) : AlX := obsX file fa fn fs ex (He.frG gt (addrsX n gt))
def hookX (n : Nat) (file : Str) (fa : List He.Fa) (fn : List He.DefD) (fs : List SupD) (ex : PySem.W.Frag → Bool) : PySem.W.Hook where
  α := AlX
  obs := fun s => obsXG n file fa fn fs ex s.heap.get?
  val := fun _ => valX fn fs
  says := fun _ h => ∃ K : PySem.W.Frag, K.In h ∧ obsX file fa fn fs ex K = valX fn fs
  of := fun _ _ e => ⟨_, He.frG_in, e⟩
  keeps := fun _ _ _ ⟨K, hK, c⟩ k => ⟨K, PySem.W.Frag.In.keeps hK k, c⟩
theorem obsXG_eq {n : Nat} {file : Str} {fa : List He.Fa} {fn : List He.DefD} {fs : List SupD} {ex : PySem.W.Frag → Bool} {gt : Addr → Option Obj} {s : Shared} (h : ∀ a, gt a = s.heap.get? a) : obsXG n file fa fn fs ex gt = (hookX n file fa fn fs ex).obs s := by
  obtain rfl : gt = s.heap.get? := funext h
  rfl
section
variable {file : Str} {fa : List He.Fa} {fn : List He.DefD} {fs : List SupD} {ex : PySem.W.Frag → Bool} {K : PySem.W.Frag}
theorem factX (c : obsX file fa fn fs ex K = valX fn fs) (i : Nat) {f : He.Fa} (h : fa[i]? = some f := by rfl) : f.ok K = true :=
  List.all_eq_true.1 (He.ba (He.ba (congrArg (fun z : AlX => z.1) c)).1).1 f (List.mem_of_getElem? h)
theorem restX (c : obsX file fa fn fs ex K = valX fn fs) : ex K = true := (He.ba (He.ba (congrArg (fun z : AlX => z.1) c)).2).2
theorem defX (c : obsX file fa fn fs ex K = valX fn fs) (i : Nat) {d : He.DefD} (h : fn[i]? = some d := by rfl) : ∃ fd, FunD K d.name d.qual d.params d.body d.scope (d.dvs K) (d.kws K) (He.fAd K d.at_) fd := by
  have c2 := (He.ba (He.ba (congrArg (fun z : AlX => z.1) c)).1).2
  have e : (fn.map fun d => He.fnW K d.at_)[i]? = (fn.map He.DefD.val)[i]? := congrArg (fun l : List He.FnW => l[i]?) (congrArg (fun z : AlX => z.2.1) c)
  rw [List.getElem?_map, List.getElem?_map, h] at e
  exact He.DefD.funD (Option.some.inj e) (List.all_eq_true.1 c2 d (List.mem_of_getElem? h))
theorem supX {P : Program} {h : Heap} {mg : Str → Option Value} (c : obsX P.main.file fa fn fs ex K = valX fn fs) (X : K.In h) (G : h.Ns mainGlobals mg) (hp : (P.main.scope.names.lookup ("super" : Str)).isSome = false) (i : Nat) {d : SupD} (hi : fs[i]? = some d := by rfl) :
    ∃ fd, SupF P K mg d.qual (defArgs d.st) (defBody d.st) (defScope d.st) (He.ga K d.cls) (d.f K) fd ∧ PlainX d.qual d.st fd := by
  have c2 := (He.ba (He.ba (congrArg (fun z : AlX => z.1) c)).2).1
  have e : (fs.map fun d => supV K (d.f K))[i]? = (fs.map SupD.val)[i]? := congrArg (fun l : List SupV => l[i]?) (congrArg (fun z : AlX => z.2.2) c)
  rw [List.getElem?_map, List.getElem?_map, hi] at e
  exact supB_ok X G hp (Option.some.inj e) (List.all_eq_true.1 c2 d (List.mem_of_getElem? hi))
end
end VL
set_option Elab.async false
set_option linter.all false
set_option autoImplicit false
set_option maxRecDepth 100000
set_option maxHeartbeats 4000000
namespace K01
open PySem PySem.Spec PySem.Calls L2 VL
open PyProof.Rows hiding St
def top (i : Nat) : Stmt := PySem.Challenge.pw_seatedtwice_k01_scenes.main.body.getD i (.Pass ⟨0, 0, 0, 0⟩)
def mth (i j : Nat) : Stmt := match top i with | .ClassDef _ _ _ body _ _ _ _ _ _ _ => body.getD j (.Pass ⟨0, 0, 0, 0⟩) | s => s
def z_BARRED : List Str := (["row", "mark", "unmark", "lot", "lots", "takes", "gives", "next", "prev", "first", "last", "where", "nothing", "if", "else", "end", "times", "put", "swap", "turn"] : List Str) ++ (["sort", "gather", "by", "ahead", "behind", "is", "has", "with", "missing", "it", "and", "or", "not", "all", "some"] : List Str)
abbrev s_BadScene_init : Stmt := mth 2 0
abbrev N_BadScene_init : List Str := ["self", "line"]
abbrev P_BadScene_init : List Str := ["self", "line"]
theorem sc_BadScene_init : SupS N_BadScene_init P_BadScene_init (defScope s_BadScene_init) := ⟨rfl, rfl, rfl, by decide +kernel, rfl, by decide +kernel, by decide +kernel, by decide +kernel, rfl, rfl⟩
def g_BadScene_init : MA := (mAc (mJoin [(mC (.str "line ")), (mO1 oFmt (.nm 1)), (mC (.str " of the scene is wrong"))]) mA0)
def e_BadScene_init : ME := (mNm 1)
abbrev ok_BadScene : List D → (List (Str × D) → Prop) → Prop := okX N_BadScene_init g_BadScene_init "line" e_BadScene_init
theorem oe_BadScene {P : Program} {w : World} {K : PySem.W.Frag} {mg : Str → Option Value} {base : Heap} {C fI : Addr} {fd : FuncData} (F : SupF P K mg "BadScene.__init__" (defArgs s_BadScene_init) (defBody s_BadScene_init) (defScope s_BadScene_init) C fI fd) (hno : PySem.W.findIn K (.ref C) "line" = some none) : FnOk P w K mg base (L2.CX P w) 1 fI fd P_BadScene_init (spX K 1 C ok_BadScene) :=
  fn_sup (k := 0) (n := 1) (g := g_BadScene_init) (me := e_BadScene_init) (fld := "line") sc_BadScene_init F rfl rfl rfl rfl rfl hno (fun _ _ _ _ _ _ _ => ⟨(va_cons (ve_joined (.cons (ve_str) (.cons (ve_fmt (vo_nm 1)) (.cons (ve_str) .nil)))) va_nil), (ve_nm 1)⟩)
/-! ### what each def promises -/
abbrev dInts (l : List Int) : D := .lst (l.map D.int)
abbrev dStrs (l : List Str) : D := .lst (l.map D.str)
def penT (cells : List Int) (turn left : Int) : T := .bd [(.inr "cells", dInts cells), (.inr "turn", .int turn), (.inr "left", .int left)]
/-- the pen behind at most n draws -/
def penOk (n : Nat) (t : T) : Prop := ∃ cells turn left, t = penT cells turn left ∧ 0 ≤ turn ∧ turn ≤ (n : Int) ∧ cells.length ≤ 63
def most : Nat := 2 ^ 40
def sp__law_begun_pen (_ : PySem.W.Frag) : VSp := fun ts R _ => ∃ ns, ts = [.frz (.scr ns)] ∧ ∀ pen, penOk 0 pen → R pen [none]
def sp__law_draw (_ : PySem.W.Frag) : VSp := fun ts R _ => ∃ n span pen, ts = [pen, .frz (.int span)] ∧ penOk n pen ∧ n < most ∧ 0 < span ∧ span < 2 ^ 250 ∧ ∀ r pen', 0 ≤ r → r < span → penOk (n + 1) pen' → R (.frz (.int r)) [some pen', none]
def sp__law_pick (_ : PySem.W.Frag) : VSp := fun ts R _ => ∃ n ds pen, ts = [pen, .frz (.lst ds)] ∧ penOk n pen ∧ n < most ∧ ds ≠ [] ∧ ds.length < 2 ^ 30 ∧ ∀ d pen', d ∈ ds → penOk (n + 1) pen' → R (.frz d) [some pen', none]
def sp__law_shuffled (_ : PySem.W.Frag) : VSp := fun ts R _ => ∃ n ds pen, ts = [pen, .frz (.lst ds)] ∧ penOk n pen ∧ n + ds.length < most ∧ ds.length < 2 ^ 20 ∧ (∀ es : List D, (∀ e ∈ es, e ∈ ds) → Eqb (.lst es)) ∧ ∀ (es : List D) pen', es.Perm ds → penOk (n + ds.length) pen' → R (.bl es) [some pen', none]
def barredL : List Str := (["row", "mark", "unmark", "lot", "lots", "takes", "gives", "next", "prev", "first", "last", "where"] : List Str) ++ (["if", "else", "end", "times", "put", "swap", "turn", "sort", "gather", "by", "ahead", "behind"] : List Str) ++ (["is", "has", "with", "missing", "it", "and", "or", "not", "all", "some", "nothing"] : List Str)
def sp__law_barred (_ : PySem.W.Frag) : VSp := fun ts R _ => ts = [] ∧ R (.bl (barredL.map D.str)) []
def names11 : List Str := ["p", "q", "x", "y", "zz", "date", "rows", "abcdefghijkl", "marks", "out", "nextone"]
def sp__law_new_names (_ : PySem.W.Frag) : VSp := fun ts R _ => ∃ (n : Nat) (many : Int) (pen : T), ts = [pen, .frz (.int many)] ∧ penOk n pen ∧ n + 11 < most ∧ 0 ≤ many ∧ ∀ (es : List Str) pen', es.Perm names11 → penOk (n + 11) pen' → R (.bl ((es.take many.toNat).map D.str)) [some pen', none]
/-- the scenes that are drawn -/
structure ScOk (rs ms : List Str) : Prop where
  ne : rs ≠ []
  r3 : rs.length ≤ 3
  m2 : ms.length ≤ 2
  nd : (rs ++ ms).Nodup
  good : ∀ z ∈ rs ++ ms, z ∈ names11
def scD (rs ms : List Str) (b : Bool) : List (Key × D) := [(.inr "rows", dStrs rs), (.inr "marks", dStrs ms), (.inr "lots", .bl b)]
def sp__law_new_scene (_ : PySem.W.Frag) : VSp := fun ts R _ => ∃ (n : Nat) (pen : T), ts = [pen, .frz (.int 3), .frz (.int 2), .frz (.bl true)] ∧ penOk n pen ∧ n + 14 < most ∧ ∀ rs ms b pen', ScOk rs ms → penOk (n + 14) pen' → R (.bd (scD rs ms b)) [some pen', none, none, none]
def nl : Str := "\n"
def sp1 : Str := " "
def linesT (rs ms : List Str) (b : Bool) : List Str := rs.map (fun x => ("row " : Str) ++ x) ++ ms.map (fun x => ("mark " : Str) ++ x) ++ (if b = true then ([("lots" : Str)] : List Str) else [])
def textT (rs ms : List Str) (b : Bool) : Str := Txt.join nl (linesT rs ms b)
def sp__law_scene_text (_ : PySem.W.Frag) : VSp := fun ts R _ => ∃ rs ms b, ts = [.frz (.dct (scD rs ms b))] ∧ ScOk rs ms ∧ R (.frz (.str (textT rs ms b))) [none]
def letters : Str := "abcdefghijklmnopqrstuvwxyz"
def isNm (w : Str) : Bool := decide (1 ≤ w.length) && decide (w.length ≤ 12) && w.cps.toList.all (fun c => decide (c ∈ letters.cps.toList)) && !decide (w ∈ barredL)
def big : Nat := 1000000
def sp__law_is_name (_ : PySem.W.Frag) : VSp := fun ts R _ => ∃ w, ts = [.frz (.str w)] ∧ w.length ≤ big ∧ R (.frz (.bl (isNm w))) [none]
def sp_is_name (_ : PySem.W.Frag) : VSp := fun ts R _ => ∃ w, ts = [.frz (.str w)] ∧ w.length ≤ big ∧ R (.frz (.bl (isNm w))) [none]
def linesF (t : Str) : List Str := if t = "" then [] else Txt.split t nl
def sp_lines_of (_ : PySem.W.Frag) : VSp := fun ts R _ => ∃ t, ts = [.frz (.str t)] ∧ t.length ≤ big ∧ R (.bl ((linesF t).map D.str)) [none]
def wordsF (l : Str) : List Str := if ("" : Str) ∈ Txt.split l sp1 then [] else Txt.split l sp1
def sp_words_of (_ : PySem.W.Frag) : VSp := fun ts R _ => ∃ t, ts = [.frz (.str t)] ∧ t.length ≤ big ∧ ∀ r : T, (∀ k : D → Prop, r.vw k = k (.lst ((wordsF t).map D.str))) → R r [none]
/-- one line of a scene's text: what is read so far, or that it is wrong -/
structure Rd0 where
  rows : List Str
  marks : List Str
  lots : Bool
def lineF (s : Rd0) (ws : List Str) : Option Rd0 :=
  if ws = [("lots" : Str)] ∧ s.rows ≠ [] ∧ s.lots = false then some { s with lots := true }
  else match ws with
    | [a, b] => if s.lots = true ∨ isNm b = false ∨ b ∈ s.rows ++ s.marks then none
      else if a = "row" ∧ s.marks = [] ∧ s.rows.length < 3 then some { s with rows := s.rows ++ [b] }
      else if a = "mark" ∧ s.rows ≠ [] ∧ s.marks.length < 2 then some { s with marks := s.marks ++ [b] }
      else none
    | _ => none
def readL : Nat → Rd0 → List Str → Nat × Rd0
  | _, s, [] => (if s.rows = [] then 1 else 0, s)
  | k, s, l :: ls => match lineF s (Txt.split l sp1) with
    | some s' => readL (k + 1) s' ls
    | none => (k + 1, s)
def readF (t : Str) : Nat × Rd0 := readL 0 ⟨[], [], false⟩ (linesF t)
def sp__law_read (_ : PySem.W.Frag) : VSp := fun ts R _ => ∃ t, ts = [.frz (.str t)] ∧ t.length ≤ big ∧ R (.frz (.tup [.int (readF t).1, dStrs (readF t).2.rows, dStrs (readF t).2.marks, .bl (readF t).2.lots])) [none]
def dTups (l : List Str) : D := .tup (l.map D.str)
def flds (t : Str) : List (Str × T) := [("text", .frz (.str t)), ("rows", .frz (dTups (readF t).2.rows)), ("marks", .frz (dTups (readF t).2.marks)), ("has_lots", .frz (.bl (readF t).2.lots))]
def sp_Scene_init (K : PySem.W.Frag) : VSp := fun ts R XR => ∃ t, ts = [.bo (He.ga K "Scene") [], .frz (.str t)] ∧ t.length ≤ big ∧ ((readF t).1 = 0 → R (.frz .non) [some (.bo (He.ga K "Scene") (flds t)), none]) ∧
  ((readF t).1 ≠ 0 → XR (He.ga K "BadScene") [("line", .int (readF t).1)] [some (.bo (He.ga K "Scene") []), none])
def scO (K : PySem.W.Frag) (t : Str) : D := (T.bo (He.ga K "Scene") (flds t)).toD
def sp_Scene_eq (K : PySem.W.Frag) : VSp := fun ts R _ => ∃ a b, ts = [.frz (scO K a), .frz (scO K b)] ∧ R (.frz (.bl (decide (a = b)))) [none, none]
def sp__law_bent (_ : PySem.W.Frag) : VSp := fun ts R _ => ∃ n t odd pen, ts = [pen, .frz (.str t), .frz (dStrs odd)] ∧ penOk n pen ∧ n + 10 < most ∧ t.length ≤ 1000 ∧ odd.length ≤ 20 ∧ (∀ z ∈ odd, z.length ≤ 20) ∧ ∀ t' pen', t'.length ≤ 2 * t.length + 50 → penOk (n + 10) pen' → R (.frz (.str t')) [some pen', none, none]
def toldD (t : Str) : D := if (readF t).1 = 0 then .tup [.str t, dTups (readF t).2.rows, dTups (readF t).2.marks, .bl (readF t).2.lots] else .int (readF t).1
def sp__law_told (_ : PySem.W.Frag) : VSp := fun ts R _ => ∃ t, ts = [.frz (.str t)] ∧ t.length ≤ big ∧ R (.frz (toldD t)) [none]
def sp_law (_ : PySem.W.Frag) : VSp := fun ts R _ => ∃ ns, ts = [.frz (.scr ns)] ∧ ∀ Γ, R (.frz (.bl true)) Γ

structure Fx (K : PySem.W.Frag) (mg : Str → Option Value) : Prop where
  x_BadScene : XcC K (He.ga K "BadScene") (He.fAd K ("BadScene", some "__init__"))
  g_lines_of : mg "lines_of" = some (.ref (He.fAd K ("lines_of", none)))
  k_lines_of : PySem.W.keepIn K (.ref (He.fAd K ("lines_of", none))) = true
  g_words_of : mg "words_of" = some (.ref (He.fAd K ("words_of", none)))
  k_words_of : PySem.W.keepIn K (.ref (He.fAd K ("words_of", none))) = true
  g_is_name : mg "is_name" = some (.ref (He.fAd K ("is_name", none)))
  k_is_name : PySem.W.keepIn K (.ref (He.fAd K ("is_name", none))) = true
  g__law_begun_pen : mg "_law_begun_pen" = some (.ref (He.fAd K ("_law_begun_pen", none)))
  k__law_begun_pen : PySem.W.keepIn K (.ref (He.fAd K ("_law_begun_pen", none))) = true
  g__law_draw : mg "_law_draw" = some (.ref (He.fAd K ("_law_draw", none)))
  k__law_draw : PySem.W.keepIn K (.ref (He.fAd K ("_law_draw", none))) = true
  g__law_pick : mg "_law_pick" = some (.ref (He.fAd K ("_law_pick", none)))
  k__law_pick : PySem.W.keepIn K (.ref (He.fAd K ("_law_pick", none))) = true
  g__law_shuffled : mg "_law_shuffled" = some (.ref (He.fAd K ("_law_shuffled", none)))
  k__law_shuffled : PySem.W.keepIn K (.ref (He.fAd K ("_law_shuffled", none))) = true
  g__law_barred : mg "_law_barred" = some (.ref (He.fAd K ("_law_barred", none)))
  k__law_barred : PySem.W.keepIn K (.ref (He.fAd K ("_law_barred", none))) = true
  g__law_new_names : mg "_law_new_names" = some (.ref (He.fAd K ("_law_new_names", none)))
  k__law_new_names : PySem.W.keepIn K (.ref (He.fAd K ("_law_new_names", none))) = true
  g__law_new_scene : mg "_law_new_scene" = some (.ref (He.fAd K ("_law_new_scene", none)))
  k__law_new_scene : PySem.W.keepIn K (.ref (He.fAd K ("_law_new_scene", none))) = true
  g__law_scene_text : mg "_law_scene_text" = some (.ref (He.fAd K ("_law_scene_text", none)))
  k__law_scene_text : PySem.W.keepIn K (.ref (He.fAd K ("_law_scene_text", none))) = true
  g__law_is_name : mg "_law_is_name" = some (.ref (He.fAd K ("_law_is_name", none)))
  k__law_is_name : PySem.W.keepIn K (.ref (He.fAd K ("_law_is_name", none))) = true
  g__law_bent : mg "_law_bent" = some (.ref (He.fAd K ("_law_bent", none)))
  k__law_bent : PySem.W.keepIn K (.ref (He.fAd K ("_law_bent", none))) = true
  g__law_read : mg "_law_read" = some (.ref (He.fAd K ("_law_read", none)))
  k__law_read : PySem.W.keepIn K (.ref (He.fAd K ("_law_read", none))) = true
  g__law_told : mg "_law_told" = some (.ref (He.fAd K ("_law_told", none)))
  k__law_told : PySem.W.keepIn K (.ref (He.fAd K ("_law_told", none))) = true
  g_law : mg "law" = some (.ref (He.fAd K ("law", none)))
  k_law : PySem.W.keepIn K (.ref (He.fAd K ("law", none))) = true
  g_SeatError : mg "SeatError" = some (.ref (He.ga K "SeatError"))
  g_BadScene : mg "BadScene" = some (.ref (He.ga K "BadScene"))
  g_Scene : mg "Scene" = some (.ref (He.ga K "Scene"))
  m_Scene : Mk K (He.ga K "Scene") (He.fAd K ("Scene", some "__init__"))
  f_Scene_text : FldOk K [He.ga K "Scene"] "text"
  f_Scene_rows : FldOk K [He.ga K "Scene"] "rows"
  f_Scene_marks : FldOk K [He.ga K "Scene"] "marks"
  f_Scene_has_lots : FldOk K [He.ga K "Scene"] "has_lots"
  c_LETTERS : ∃ t, mg "LETTERS" = some (.str "abcdefghijklmnopqrstuvwxyz" t)
  c_LONGEST : ∃ t, mg "LONGEST" = some (.int 12 t)
  c_BARRED : mg "BARRED" = some (.ref (He.ga K "BARRED")) ∧ ∀ H, SqT K H (He.ga K "BARRED") (z_BARRED.map V.str)
  c_MOST_ROWS : ∃ t, mg "MOST_ROWS" = some (.int 3 t)
  c_MOST_MARKS : ∃ t, mg "MOST_MARKS" = some (.int 2 t)
  b_ValueError : mg "ValueError" = none
  b_abs : mg "abs" = none
  b_all : mg "all" = none
  b_enumerate : mg "enumerate" = none
  b_int : mg "int" = none
  b_isinstance : mg "isinstance" = none
  b_len : mg "len" = none
  b_list : mg "list" = none
  b_range : mg "range" = none
  b_repr : mg "repr" = none
  b_tuple : mg "tuple" = none
  q_Scene : EqC K (He.ga K "Scene") (He.fAd K ("Scene", some "__eq__"))
section
variable {P : Program} {w : World} {K : PySem.W.Frag} {mg : Str → Option Value} {base : Heap}
abbrev s_lines_of : Stmt := top 7
abbrev N_lines_of : List Str := ["text"]
abbrev P_lines_of : List Str := ["text"]
theorem sc_lines_of : FnScope N_lines_of P_lines_of (defScope s_lines_of) := ⟨rfl, rfl, rfl, by decide +kernel, rfl, by decide +kernel, by decide +kernel⟩
def m_lines_of (K : PySem.W.Frag) : MS := (sRet (mIfE (mTst (mO2 oEq (.nm 0) (.ex (mC (.str ""))))) (mLst mA0) (mStr1 oSplit (mNm 0) (mC (.str "\n")))))
theorem v_lines_of (fx : Fx K mg) {f : Addr} {cdv : Value} {A : Around} {outer : List Env} {s : Shared} {H : Hp} {E : XK} (hr : RoomG 0 (BX P w K mg base N_lines_of "lines_of" s_lines_of f cdv A outer s H E).A) (tk : Takes (BX P w K mg base N_lines_of "lines_of" s_lines_of f cdv A outer s H E) (BW E)) (hpo : PassesOwn (model P w) (BX P w K mg base N_lines_of "lines_of" s_lines_of f cdv A outer s H E).A (BX P w K mg base N_lines_of "lines_of" s_lines_of f cdv A outer s H E).env (BX P w K mg base N_lines_of "lines_of" s_lines_of f cdv A outer s H E).xe) :
    VSs (BX P w K mg base N_lines_of "lines_of" s_lines_of f cdv A outer s H E) (BW E) 0 (defBody s_lines_of) (m_lines_of K) :=
  (vss_one (vs_ret (ve_ife (vt_cmp (ov_eq hr.u64) (vo_nm 0) (.ex (ve_str))) (ve_lst va_nil) (ve_str1 F.slot_str_split F.type_str_split st_split (ve_nm 0) (ve_str)))))
abbrev s_words_of : Stmt := top 8
abbrev N_words_of : List Str := ["line", "words"]
abbrev P_words_of : List Str := ["line"]
theorem sc_words_of : FnScope N_words_of P_words_of (defScope s_words_of) := ⟨rfl, rfl, rfl, by decide +kernel, rfl, by decide +kernel, by decide +kernel⟩
def m_words_of (K : PySem.W.Frag) : MS := (sSeq (sSet 1 (mStr1 oSplit (mNm 0) (mC (.str " "))))
    (sRet (mIfE (mTst (mO2 oIn (.ex (mC (.str ""))) (.nm 1))) (mLst mA0) (mNm 1))))
theorem v_words_of (fx : Fx K mg) {f : Addr} {cdv : Value} {A : Around} {outer : List Env} {s : Shared} {H : Hp} {E : XK} (hr : RoomG 0 (BX P w K mg base N_words_of "words_of" s_words_of f cdv A outer s H E).A) (tk : Takes (BX P w K mg base N_words_of "words_of" s_words_of f cdv A outer s H E) (BW E)) (hpo : PassesOwn (model P w) (BX P w K mg base N_words_of "words_of" s_words_of f cdv A outer s H E).A (BX P w K mg base N_words_of "words_of" s_words_of f cdv A outer s H E).env (BX P w K mg base N_words_of "words_of" s_words_of f cdv A outer s H E).xe) :
    VSs (BX P w K mg base N_words_of "words_of" s_words_of f cdv A outer s H E) (BW E) 0 (defBody s_words_of) (m_words_of K) :=
  (vss_cons (vs_set (i := 1) sc_words_of.nd (ve_str1 F.slot_str_split F.type_str_split st_split (ve_nm 0) (ve_str)))
      (vss_one (vs_ret (ve_ife (vt_cmp (ov_in hr.u65) (.ex (ve_str)) (vo_nm 1)) (ve_lst va_nil) (ve_nm 1)))))
abbrev s_is_name : Stmt := top 9
abbrev N_is_name : List Str := ["word", "sign"]
abbrev P_is_name : List Str := ["word"]
theorem sc_is_name : FnScope N_is_name P_is_name (defScope s_is_name) := ⟨rfl, rfl, rfl, by decide +kernel, rfl, by decide +kernel, by decide +kernel⟩
def m_is_name (K : PySem.W.Frag) : MS := (sRet (mAndV (mChain oLe oLe (mC (.int 1)) (mO1 oLen (.nm 0)) (mC (.int 12))) (mAndV (mO2 oNin (.nm 0) (.ex (mFrz (mC (.tup (z_BARRED.map D.str)))))) (mO1 oAll (.ex (mFrz (mLc (iS (mNm 0)) (tN 1) mYes (mO2 oIn (.nm 1) (.ex (mFrz (mC (.str "abcdefghijklmnopqrstuvwxyz"))))) [1])))))))
theorem v_is_name (fx : Fx K mg) {f : Addr} {cdv : Value} {A : Around} {outer : List Env} {s : Shared} {H : Hp} {E : XK} (hr : RoomG 0 (BX P w K mg base N_is_name "is_name" s_is_name f cdv A outer s H E).A) (tk : Takes (BX P w K mg base N_is_name "is_name" s_is_name f cdv A outer s H E) (BW E)) (hpo : PassesOwn (model P w) (BX P w K mg base N_is_name "is_name" s_is_name f cdv A outer s H E).A (BX P w K mg base N_is_name "is_name" s_is_name f cdv A outer s H E).env (BX P w K mg base N_is_name "is_name" s_is_name f cdv A outer s H E).xe) :
    VSs (BX P w K mg base N_is_name "is_name" s_is_name f cdv A outer s H E) (BW E) 0 (defBody s_is_name) (m_is_name K) :=
  (vss_one (vs_ret (ve_and (ve_chain ov_le ov_le ve_int (ve_b1 cv_len rfl fx.b_len bt_len (vo_nm 0)) (ve_gint fx.c_LONGEST)) (ve_and (ve_cmp (ov_nin hr.u65) (vo_nm 0) (.fz (ve_gtup fx.c_BARRED))) (ve_one (ve_b1 (cv_all rfl) rfl fx.b_all bt_all (.fz (ve_lc [("sign", 1)] rfl sc_is_name.nd (vi_str (ve_nm 0)) (blkOk_by rfl) (fun _ _ _ _ _ => ⟨(vtc_name (i := 1) sc_is_name.nd), vts_nil, (ve_cmp (ov_in hr.u65) (vo_nm 1) (.fz (ve_gstr fx.c_LETTERS)))⟩)))))))))
abbrev s__law_begun_pen : Stmt := top 15
abbrev N__law_begun_pen : List Str := ["script"]
abbrev P__law_begun_pen : List Str := ["script"]
theorem sc__law_begun_pen : FnScope N__law_begun_pen P__law_begun_pen (defScope s__law_begun_pen) := ⟨rfl, rfl, rfl, by decide +kernel, rfl, by decide +kernel, by decide +kernel⟩
def m__law_begun_pen (K : PySem.W.Frag) : MS := (sRet (mDct ((.inr "cells", (mO1 oListOf (.ex (mFrz (mSlc oSl (.nm 0) mNo (mSo (mC (.int 63)))))))) :: ((.inr "turn", (mC (.int 0))) :: ((.inr "left", (mC (.int 0))) :: [])))))
theorem v__law_begun_pen (fx : Fx K mg) {f : Addr} {cdv : Value} {A : Around} {outer : List Env} {s : Shared} {H : Hp} {E : XK} (hr : RoomG 0 (BX P w K mg base N__law_begun_pen "_law_begun_pen" s__law_begun_pen f cdv A outer s H E).A) (tk : Takes (BX P w K mg base N__law_begun_pen "_law_begun_pen" s__law_begun_pen f cdv A outer s H E) (BW E)) (hpo : PassesOwn (model P w) (BX P w K mg base N__law_begun_pen "_law_begun_pen" s__law_begun_pen f cdv A outer s H E).A (BX P w K mg base N__law_begun_pen "_law_begun_pen" s__law_begun_pen f cdv A outer s H E).env (BX P w K mg base N__law_begun_pen "_law_begun_pen" s__law_begun_pen f cdv A outer s H E).xe) :
    VSs (BX P w K mg base N__law_begun_pen "_law_begun_pen" s__law_begun_pen f cdv A outer s H E) (BW E) 0 (defBody s__law_begun_pen) (m__law_begun_pen K) :=
  (vss_one (vs_ret (ve_dct (.cons (k := .inr "cells") pe_str (ve_ty1 cv_list rfl fx.b_list bt_list (.fz (ve_slice slv (vo_nm 0) vp_none (vp_some ve_int)))) (.cons (k := .inr "turn") pe_str ve_int (.cons (k := .inr "left") pe_str ve_int .nil))))))
abbrev s__law_draw : Stmt := top 16
abbrev N__law_draw : List Str := ["pen", "span", "digit", "turn", "cell", "mixed"]
abbrev P__law_draw : List Str := ["pen", "span"]
theorem sc__law_draw : FnScope N__law_draw P__law_draw (defScope s__law_draw) := ⟨rfl, rfl, rfl, by decide +kernel, rfl, by decide +kernel, by decide +kernel⟩
def m__law_draw (K : PySem.W.Frag) : MS := (sSeq (sIf (mTst (mO2 oGt (.ex (mFrz (mO2 oIx (.nm 0) (.ex (mC (.str "left")))))) (.ex (mC (.int 0))))) (sSeq (sSet 2 (mO2 oMod (.ex (mFrz (mO1 oInt1 (.ex (mFrz (mO2 oIx (.nm 0) (.ex (mC (.str "left"))))))))) (.nm 1)))
    (sSeq (sAsg (mO2 oFdiv (.ex (mFrz (mO2 oIx (.nm 0) (.ex (mC (.str "left")))))) (.nm 1)) (tSub 0 oPut (mC (.str "left"))))
    (sRet (mMv 2)))) sNil)
    (sSeq (sSet 3 (mO2 oIx (.nm 0) (.ex (mC (.str "turn")))))
    (sSeq (sAsg (mO2 oAdd (.nm 3) (.ex (mC (.int 1)))) (tSub 0 oPut (mC (.str "turn"))))
    (sSeq (sSet 4 (mO2 oAdd (.ex (mFrz (mO2 oMulA (.ex (mC (.int 61))) (.nm 3)))) (.ex (mC (.int 13)))))
    (sSeq (sIf (mTst (mO2 oNe (.ex (mFrz (mO2 oIx (.nm 0) (.ex (mC (.str "cells")))))) (.ex (mFrz (mLst mA0))))) (sSet 4 (mO2 oIx (.ex (mFrz (mO2 oIx (.nm 0) (.ex (mC (.str "cells")))))) (.ex (mFrz (mO2 oMod (.ex (mFrz (mO1 oInt1 (.nm 3)))) (.ex (mFrz (mO1 oLen (.ex (mFrz (mO2 oIx (.nm 0) (.ex (mC (.str "cells")))))))))))))) sNil)
    (sSeq (sIf (mAnd (mTst (mO2 oLt (.nm 3) (.ex (mFrz (mO1 oLen (.ex (mFrz (mO2 oIx (.nm 0) (.ex (mC (.str "cells"))))))))))) (mTst (mO2 oGe (.ex (mFrz (mO1 oAbs (.nm 4)))) (.ex (mFrz (mO2 oPow (.ex (mC (.int 10))) (.ex (mC (.int 18))))))))) (sSeq (sAsg (mO2 oFdiv (.ex (mFrz (mO2 oSub (.ex (mFrz (mO1 oAbs (.nm 4)))) (.ex (mFrz (mO2 oPow (.ex (mC (.int 10))) (.ex (mC (.int 18))))))))) (.nm 1)) (tSub 0 oPut (mC (.str "left"))))
    (sRet (mO2 oMod (.ex (mFrz (mO1 oInt1 (.ex (mFrz (mO2 oSub (.ex (mFrz (mO1 oAbs (.nm 4)))) (.ex (mFrz (mO2 oPow (.ex (mC (.int 10))) (.ex (mC (.int 18)))))))))))) (.nm 1)))) sNil)
    (sSeq (sSet 5 (mO2 oMulA (.ex (mFrz (mO2 oMod (.ex (mFrz (mO1 oInt1 (.nm 4)))) (.ex (mC (.int 4294967087)))))) (.ex (mC (.int 48611)))))
    (sSeq (sSet 5 (mO2 oMod (.ex (mFrz (mO1 oInt1 (.ex (mFrz (mO2 oAdd (.ex (mFrz (mO2 oAdd (.nm 5) (.ex (mFrz (mO2 oMulA (.nm 3) (.ex (mFrz (mO2 oAdd (.ex (mFrz (mO2 oMulA (.nm 3) (.ex (mC (.int 27919)))))) (.ex (mC (.int 10601)))))))))))) (.ex (mC (.int 41))))))))) (.ex (mC (.int 4294967029)))))
    (sSeq (sSet 5 (mO2 oMod (.ex (mFrz (mO1 oInt1 (.ex (mFrz (mO2 oMulA (.nm 5) (.ex (mFrz (mO2 oAdd (.nm 5) (.ex (mC (.int 75013)))))))))))) (.ex (mC (.int 4294966997)))))
    (sSeq (sSet 5 (mO2 oMod (.ex (mFrz (mO1 oInt1 (.ex (mFrz (mO2 oAdd (.ex (mFrz (mO2 oAdd (.ex (mFrz (mO2 oMulA (.nm 5) (.nm 5)))) (.ex (mFrz (mO2 oMulA (.ex (mC (.int 30427))) (.nm 5))))))) (.ex (mFrz (mO2 oMulA (.ex (mC (.int 19))) (.nm 3)))))))))) (.ex (mC (.int 4294966981)))))
    (sRet (mO2 oMod (.ex (mFrz (mO1 oInt1 (.ex (mFrz (mO2 oFdiv (.ex (mFrz (mO2 oMod (.ex (mFrz (mO1 oInt1 (.ex (mFrz (mO2 oMulA (.nm 5) (.ex (mFrz (mO2 oAdd (.nm 5) (.ex (mC (.int 58111)))))))))))) (.ex (mC (.int 4294966943)))))) (.ex (mC (.int 64))))))))) (.nm 1)))))))))))))
theorem v__law_draw (fx : Fx K mg) {f : Addr} {cdv : Value} {A : Around} {outer : List Env} {s : Shared} {H : Hp} {E : XK} (hr : RoomG 0 (BX P w K mg base N__law_draw "_law_draw" s__law_draw f cdv A outer s H E).A) (tk : Takes (BX P w K mg base N__law_draw "_law_draw" s__law_draw f cdv A outer s H E) (BW E)) (hpo : PassesOwn (model P w) (BX P w K mg base N__law_draw "_law_draw" s__law_draw f cdv A outer s H E).A (BX P w K mg base N__law_draw "_law_draw" s__law_draw f cdv A outer s H E).env (BX P w K mg base N__law_draw "_law_draw" s__law_draw f cdv A outer s H E).xe) :
    VSs (BX P w K mg base N__law_draw "_law_draw" s__law_draw f cdv A outer s H E) (BW E) 1 (defBody s__law_draw) (m__law_draw K) :=
  (vss_cons (vs_if (vt_cmp ov_gt (.fz (ve_ix (ixv hr.u1) (vo_nm 0) (.ex (ve_str)))) (.ex ve_int)) (vss_cons (vs_set (i := 2) sc__law_draw.nd (ve_op ov_mod (.fz (ve_ty1 cv_int rfl fx.b_int bt_int (.fz (ve_ix (ixv hr.u1) (vo_nm 0) (.ex (ve_str)))))) (vo_nm 1)))
      (vss_cons (vs_asg (ve_op ov_fdiv (.fz (ve_ix (ixv hr.u1) (vo_nm 0) (.ex (ve_str)))) (vo_nm 1)) (vtg_sub (i := 0) (sv hr.u1) (ve_str)))
      (vss_one (vs_ret (ve_mv 2))))) vss_nil)
      (vss_cons (vs_set (i := 3) sc__law_draw.nd (ve_ix (ixv hr.u1) (vo_nm 0) (.ex (ve_str))))
      (vss_cons (vs_asg (ve_op ov_add (vo_nm 3) (.ex ve_int)) (vtg_sub (i := 0) (sv hr.u1) (ve_str)))
      (vss_cons (vs_set (i := 4) sc__law_draw.nd (ve_op ov_add (.fz (ve_op ov_mulA (.ex ve_int) (vo_nm 3))) (.ex ve_int)))
      (vss_cons (vs_if (vt_cmp (ov_ne hr.u64) (.fz (ve_ix (ixv hr.u1) (vo_nm 0) (.ex (ve_str)))) (.fz (ve_lst va_nil))) (vss_one (vs_set (i := 4) sc__law_draw.nd (ve_ix (ixv hr.u1) (.fz (ve_ix (ixv hr.u1) (vo_nm 0) (.ex (ve_str)))) (.fz (ve_op ov_mod (.fz (ve_ty1 cv_int rfl fx.b_int bt_int (vo_nm 3))) (.fz (ve_b1 cv_len rfl fx.b_len bt_len (.fz (ve_ix (ixv hr.u1) (vo_nm 0) (.ex (ve_str))))))))))) vss_nil)
      (vss_cons (vs_if (VW.vt (vw_and (vt_cmp ov_lt (vo_nm 3) (.fz (ve_b1 cv_len rfl fx.b_len bt_len (.fz (ve_ix (ixv hr.u1) (vo_nm 0) (.ex (ve_str))))))) (vw_and1 (vt_cmp ov_ge (.fz (ve_b1 cv_abs rfl fx.b_abs bt_abs (vo_nm 4))) (.fz (ve_op ov_pow (.ex ve_int) (.ex ve_int))))))) (vss_cons (vs_asg (ve_op ov_fdiv (.fz (ve_op ov_sub (.fz (ve_b1 cv_abs rfl fx.b_abs bt_abs (vo_nm 4))) (.fz (ve_op ov_pow (.ex ve_int) (.ex ve_int))))) (vo_nm 1)) (vtg_sub (i := 0) (sv hr.u1) (ve_str)))
      (vss_one (vs_ret (ve_op ov_mod (.fz (ve_ty1 cv_int rfl fx.b_int bt_int (.fz (ve_op ov_sub (.fz (ve_b1 cv_abs rfl fx.b_abs bt_abs (vo_nm 4))) (.fz (ve_op ov_pow (.ex ve_int) (.ex ve_int))))))) (vo_nm 1))))) vss_nil)
      (vss_cons (vs_set (i := 5) sc__law_draw.nd (ve_op ov_mulA (.fz (ve_op ov_mod (.fz (ve_ty1 cv_int rfl fx.b_int bt_int (vo_nm 4))) (.ex ve_int))) (.ex ve_int)))
      (vss_cons (vs_set (i := 5) sc__law_draw.nd (ve_op ov_mod (.fz (ve_ty1 cv_int rfl fx.b_int bt_int (.fz (ve_op ov_add (.fz (ve_op ov_add (vo_nm 5) (.fz (ve_op ov_mulA (vo_nm 3) (.fz (ve_op ov_add (.fz (ve_op ov_mulA (vo_nm 3) (.ex ve_int))) (.ex ve_int))))))) (.ex ve_int))))) (.ex ve_int)))
      (vss_cons (vs_set (i := 5) sc__law_draw.nd (ve_op ov_mod (.fz (ve_ty1 cv_int rfl fx.b_int bt_int (.fz (ve_op ov_mulA (vo_nm 5) (.fz (ve_op ov_add (vo_nm 5) (.ex ve_int))))))) (.ex ve_int)))
      (vss_cons (vs_set (i := 5) sc__law_draw.nd (ve_op ov_mod (.fz (ve_ty1 cv_int rfl fx.b_int bt_int (.fz (ve_op ov_add (.fz (ve_op ov_add (.fz (ve_op ov_mulA (vo_nm 5) (vo_nm 5))) (.fz (ve_op ov_mulA (.ex ve_int) (vo_nm 5))))) (.fz (ve_op ov_mulA (.ex ve_int) (vo_nm 3))))))) (.ex ve_int)))
      (vss_one (vs_ret (ve_op ov_mod (.fz (ve_ty1 cv_int rfl fx.b_int bt_int (.fz (ve_op ov_fdiv (.fz (ve_op ov_mod (.fz (ve_ty1 cv_int rfl fx.b_int bt_int (.fz (ve_op ov_mulA (vo_nm 5) (.fz (ve_op ov_add (vo_nm 5) (.ex ve_int))))))) (.ex ve_int))) (.ex ve_int))))) (vo_nm 1))))))))))))))
abbrev s__law_pick : Stmt := top 17
abbrev N__law_pick : List Str := ["pen", "options"]
abbrev P__law_pick : List Str := ["pen", "options"]
theorem sc__law_pick : FnScope N__law_pick P__law_pick (defScope s__law_pick) := ⟨rfl, rfl, rfl, by decide +kernel, rfl, by decide +kernel, by decide +kernel⟩
def m__law_pick (K : PySem.W.Frag) : MS := (sRet (mO2 oIx (.nm 1) (.ex (mFrz (mCall (sp__law_draw K) (gN 0 (gE (mO1 oLen (.nm 1)) g0)))))))
theorem v__law_pick (fx : Fx K mg) (o__law_draw : OkF P w K mg base 1 (He.fAd K ("_law_draw", none)) P__law_draw (sp__law_draw K)) {f : Addr} {cdv : Value} {A : Around} {outer : List Env} {s : Shared} {H : Hp} {E : XK} (hr : RoomG 1 (BX P w K mg base N__law_pick "_law_pick" s__law_pick f cdv A outer s H E).A) (tk : Takes (BX P w K mg base N__law_pick "_law_pick" s__law_pick f cdv A outer s H E) (BW E)) (hpo : PassesOwn (model P w) (BX P w K mg base N__law_pick "_law_pick" s__law_pick f cdv A outer s H E).A (BX P w K mg base N__law_pick "_law_pick" s__law_pick f cdv A outer s H E).env (BX P w K mg base N__law_pick "_law_pick" s__law_pick f cdv A outer s H E).xe) :
    VSs (BX P w K mg base N__law_pick "_law_pick" s__law_pick f cdv A outer s H E) (BW E) 1 (defBody s__law_pick) (m__law_pick K) :=
  (vss_one (vs_ret (ve_ix (ixv hr.u1) (vo_nm 1) (.fz (ve_callO o__law_draw hr tk fx.g__law_draw fx.k__law_draw (vg_n 0 (vg_e (ve_b1 cv_len rfl fx.b_len bt_len (vo_nm 1)) vg_nil)))))))
abbrev s__law_shuffled : Stmt := top 18
abbrev N__law_shuffled : List Str := ["pen", "items", "left", "found"]
abbrev P__law_shuffled : List Str := ["pen", "items"]
theorem sc__law_shuffled : FnScope N__law_shuffled P__law_shuffled (defScope s__law_shuffled) := ⟨rfl, rfl, rfl, by decide +kernel, rfl, by decide +kernel, by decide +kernel⟩
def m__law_shuffled (K : PySem.W.Frag) : MS := (sSeq (sPar 2 3 (mAc (mO1 oListOf (.nm 1)) (mAc (mLst mA0) mA0)))
    (sSeq (sWhile (mTst (mO2 oNe (.nm 2) (.ex (mFrz (mLst mA0))))) (sExp (mMut 3 T.isBl oAppend (mAc (mMut 2 T.isBl oPopAt (mAc (mCall (sp__law_draw K) (gN 0 (gE (mO1 oLen (.nm 2)) g0))) mA0)) mA0))))
    (sRet (mMv 3))))
theorem v__law_shuffled (fx : Fx K mg) (o__law_draw : OkF P w K mg base 1 (He.fAd K ("_law_draw", none)) P__law_draw (sp__law_draw K)) {f : Addr} {cdv : Value} {A : Around} {outer : List Env} {s : Shared} {H : Hp} {E : XK} (hr : RoomG 1 (BX P w K mg base N__law_shuffled "_law_shuffled" s__law_shuffled f cdv A outer s H E).A) (tk : Takes (BX P w K mg base N__law_shuffled "_law_shuffled" s__law_shuffled f cdv A outer s H E) (BW E)) (hpo : PassesOwn (model P w) (BX P w K mg base N__law_shuffled "_law_shuffled" s__law_shuffled f cdv A outer s H E).A (BX P w K mg base N__law_shuffled "_law_shuffled" s__law_shuffled f cdv A outer s H E).env (BX P w K mg base N__law_shuffled "_law_shuffled" s__law_shuffled f cdv A outer s H E).xe) :
    VSs (BX P w K mg base N__law_shuffled "_law_shuffled" s__law_shuffled f cdv A outer s H E) (BW E) 1 (defBody s__law_shuffled) (m__law_shuffled K) :=
  (vss_cons (vs_par (i := 2) (j := 3) rfl sc__law_shuffled.nd (va_cons (ve_ty1 cv_list rfl fx.b_list bt_list (vo_nm 1)) (va_cons (ve_lst va_nil) va_nil)))
      (vss_cons (vs_while hpo (vt_cmp (ov_ne hr.u64) (vo_nm 2) (.fz (ve_lst va_nil))) (vss_one (vs_expr (ve_mut1 F.plainAttrs_list F.slot_list_append F.type_list_append mv_append (va_cons (ve_mut1 F.plainAttrs_list F.slot_list_pop F.type_list_pop mv_popAt (va_cons (ve_callO o__law_draw hr tk fx.g__law_draw fx.k__law_draw (vg_n 0 (vg_e (ve_b1 cv_len rfl fx.b_len bt_len (vo_nm 2)) vg_nil))) va_nil)) va_nil)))))
      (vss_one (vs_ret (ve_mv 3)))))
abbrev s__law_barred : Stmt := top 19
abbrev N__law_barred : List Str := ["found"]
abbrev P__law_barred : List Str := []
theorem sc__law_barred : FnScope N__law_barred P__law_barred (defScope s__law_barred) := ⟨rfl, rfl, rfl, by decide +kernel, rfl, by decide +kernel, by decide +kernel⟩
def m__law_barred (K : PySem.W.Frag) : MS := (sSeq (sSet 0 (mLst (mAc (mC (.str "row")) (mAc (mC (.str "mark")) (mAc (mC (.str "unmark")) (mAc (mC (.str "lot")) (mAc (mC (.str "lots")) (mAc (mC (.str "takes")) (mAc (mC (.str "gives")) (mAc (mC (.str "next")) (mAc (mC (.str "prev")) (mAc (mC (.str "first")) (mAc (mC (.str "last")) (mAc (mC (.str "where")) mA0))))))))))))))
    (sSeq (sSet 0 (mO2 oAdd (.nm 0) (.ex (mFrz (mLst (mAc (mC (.str "if")) (mAc (mC (.str "else")) (mAc (mC (.str "end")) (mAc (mC (.str "times")) (mAc (mC (.str "put")) (mAc (mC (.str "swap")) (mAc (mC (.str "turn")) (mAc (mC (.str "sort")) (mAc (mC (.str "gather")) (mAc (mC (.str "by")) (mAc (mC (.str "ahead")) (mAc (mC (.str "behind")) mA0)))))))))))))))))
    (sRet (mO2 oAdd (.nm 0) (.ex (mFrz (mLst (mAc (mC (.str "is")) (mAc (mC (.str "has")) (mAc (mC (.str "with")) (mAc (mC (.str "missing")) (mAc (mC (.str "it")) (mAc (mC (.str "and")) (mAc (mC (.str "or")) (mAc (mC (.str "not")) (mAc (mC (.str "all")) (mAc (mC (.str "some")) (mAc (mC (.str "nothing")) mA0))))))))))))))))))
theorem v__law_barred (fx : Fx K mg) {f : Addr} {cdv : Value} {A : Around} {outer : List Env} {s : Shared} {H : Hp} {E : XK} (hr : RoomG 0 (BX P w K mg base N__law_barred "_law_barred" s__law_barred f cdv A outer s H E).A) (tk : Takes (BX P w K mg base N__law_barred "_law_barred" s__law_barred f cdv A outer s H E) (BW E)) (hpo : PassesOwn (model P w) (BX P w K mg base N__law_barred "_law_barred" s__law_barred f cdv A outer s H E).A (BX P w K mg base N__law_barred "_law_barred" s__law_barred f cdv A outer s H E).env (BX P w K mg base N__law_barred "_law_barred" s__law_barred f cdv A outer s H E).xe) :
    VSs (BX P w K mg base N__law_barred "_law_barred" s__law_barred f cdv A outer s H E) (BW E) 0 (defBody s__law_barred) (m__law_barred K) :=
  (vss_cons (vs_set (i := 0) sc__law_barred.nd (ve_lst (va_cons (ve_str) (va_cons (ve_str) (va_cons (ve_str) (va_cons (ve_str) (va_cons (ve_str) (va_cons (ve_str) (va_cons (ve_str) (va_cons (ve_str) (va_cons (ve_str) (va_cons (ve_str) (va_cons (ve_str) (va_cons (ve_str) va_nil))))))))))))))
      (vss_cons (vs_set (i := 0) sc__law_barred.nd (ve_op ov_add (vo_nm 0) (.fz (ve_lst (va_cons (ve_str) (va_cons (ve_str) (va_cons (ve_str) (va_cons (ve_str) (va_cons (ve_str) (va_cons (ve_str) (va_cons (ve_str) (va_cons (ve_str) (va_cons (ve_str) (va_cons (ve_str) (va_cons (ve_str) (va_cons (ve_str) va_nil))))))))))))))))
      (vss_one (vs_ret (ve_op ov_add (vo_nm 0) (.fz (ve_lst (va_cons (ve_str) (va_cons (ve_str) (va_cons (ve_str) (va_cons (ve_str) (va_cons (ve_str) (va_cons (ve_str) (va_cons (ve_str) (va_cons (ve_str) (va_cons (ve_str) (va_cons (ve_str) (va_cons (ve_str) va_nil))))))))))))))))))
abbrev s__law_new_names : Stmt := top 20
abbrev N__law_new_names : List Str := ["pen", "many", "names"]
abbrev P__law_new_names : List Str := ["pen", "many"]
theorem sc__law_new_names : FnScope N__law_new_names P__law_new_names (defScope s__law_new_names) := ⟨rfl, rfl, rfl, by decide +kernel, rfl, by decide +kernel, by decide +kernel⟩
def m__law_new_names (K : PySem.W.Frag) : MS := (sSeq (sSet 2 (mLst (mAc (mC (.str "p")) (mAc (mC (.str "q")) (mAc (mC (.str "x")) (mAc (mC (.str "y")) (mAc (mC (.str "zz")) (mAc (mC (.str "date")) (mAc (mC (.str "rows")) (mAc (mC (.str "abcdefghijkl")) (mAc (mC (.str "marks")) (mAc (mC (.str "out")) (mAc (mC (.str "nextone")) mA0)))))))))))))
    (sRet (mSlc oSl (.ex (mFrz (mCall (sp__law_shuffled K) (gN 0 (gE (mNm 2) g0))))) mNo (mSo (mNm 1)))))
theorem v__law_new_names (fx : Fx K mg) (o__law_shuffled : OkF P w K mg base 2 (He.fAd K ("_law_shuffled", none)) P__law_shuffled (sp__law_shuffled K)) {f : Addr} {cdv : Value} {A : Around} {outer : List Env} {s : Shared} {H : Hp} {E : XK} (hr : RoomG 2 (BX P w K mg base N__law_new_names "_law_new_names" s__law_new_names f cdv A outer s H E).A) (tk : Takes (BX P w K mg base N__law_new_names "_law_new_names" s__law_new_names f cdv A outer s H E) (BW E)) (hpo : PassesOwn (model P w) (BX P w K mg base N__law_new_names "_law_new_names" s__law_new_names f cdv A outer s H E).A (BX P w K mg base N__law_new_names "_law_new_names" s__law_new_names f cdv A outer s H E).env (BX P w K mg base N__law_new_names "_law_new_names" s__law_new_names f cdv A outer s H E).xe) :
    VSs (BX P w K mg base N__law_new_names "_law_new_names" s__law_new_names f cdv A outer s H E) (BW E) 1 (defBody s__law_new_names) (m__law_new_names K) :=
  (vss_cons (vs_set (i := 2) sc__law_new_names.nd (ve_lst (va_cons (ve_str) (va_cons (ve_str) (va_cons (ve_str) (va_cons (ve_str) (va_cons (ve_str) (va_cons (ve_str) (va_cons (ve_str) (va_cons (ve_str) (va_cons (ve_str) (va_cons (ve_str) (va_cons (ve_str) va_nil)))))))))))))
      (vss_one (vs_ret (ve_slice slv (.fz (ve_callO o__law_shuffled hr tk fx.g__law_shuffled fx.k__law_shuffled (vg_n 0 (vg_e (ve_nm 2) vg_nil)))) vp_none (vp_some (ve_nm 1))))))
abbrev s__law_new_scene : Stmt := top 21
abbrev N__law_new_scene : List Str := ["pen", "rows", "marks", "lots", "names", "many", "found"]
abbrev P__law_new_scene : List Str := ["pen", "rows", "marks", "lots"]
theorem sc__law_new_scene : FnScope N__law_new_scene P__law_new_scene (defScope s__law_new_scene) := ⟨rfl, rfl, rfl, by decide +kernel, rfl, by decide +kernel, by decide +kernel⟩
def m__law_new_scene (K : PySem.W.Frag) : MS := (sSeq (sPar 4 5 (mAc (mCall (sp__law_new_names K) (gN 0 (gE (mC (.int 5)) g0))) (mAc (mO2 oAdd (.ex (mC (.int 1))) (.ex (mFrz (mCall (sp__law_draw K) (gN 0 (gE (mNm 1) g0)))))) mA0)))
    (sSeq (sSet 6 (mDct ((.inr "rows", (mSlc oSl (.nm 4) mNo (mSo (mNm 5)))) :: ((.inr "marks", (mSlc oSl (.nm 4) (mSo (mC (.int 3))) (mSo (mO2 oAdd (.ex (mC (.int 3))) (.ex (mFrz (mCall (sp__law_draw K) (gN 0 (gE (mO2 oAdd (.nm 2) (.ex (mC (.int 1)))) g0))))))))) :: []))))
    (sSeq (sAsg (mAndV (mNm 3) (mO2 oEq (.ex (mFrz (mCall (sp__law_draw K) (gN 0 (gE (mC (.int 3)) g0))))) (.ex (mC (.int 0))))) (tSub 6 oPut (mC (.str "lots"))))
    (sRet (mMv 6)))))
theorem v__law_new_scene (fx : Fx K mg) (o__law_draw : OkF P w K mg base 1 (He.fAd K ("_law_draw", none)) P__law_draw (sp__law_draw K)) (o__law_new_names : OkF P w K mg base 3 (He.fAd K ("_law_new_names", none)) P__law_new_names (sp__law_new_names K)) {f : Addr} {cdv : Value} {A : Around} {outer : List Env} {s : Shared} {H : Hp} {E : XK} (hr : RoomG 3 (BX P w K mg base N__law_new_scene "_law_new_scene" s__law_new_scene f cdv A outer s H E).A) (tk : Takes (BX P w K mg base N__law_new_scene "_law_new_scene" s__law_new_scene f cdv A outer s H E) (BW E)) (hpo : PassesOwn (model P w) (BX P w K mg base N__law_new_scene "_law_new_scene" s__law_new_scene f cdv A outer s H E).A (BX P w K mg base N__law_new_scene "_law_new_scene" s__law_new_scene f cdv A outer s H E).env (BX P w K mg base N__law_new_scene "_law_new_scene" s__law_new_scene f cdv A outer s H E).xe) :
    VSs (BX P w K mg base N__law_new_scene "_law_new_scene" s__law_new_scene f cdv A outer s H E) (BW E) 1 (defBody s__law_new_scene) (m__law_new_scene K) :=
  (vss_cons (vs_par (i := 4) (j := 5) rfl sc__law_new_scene.nd (va_cons (ve_callO o__law_new_names hr tk fx.g__law_new_names fx.k__law_new_names (vg_n 0 (vg_e ve_int vg_nil))) (va_cons (ve_op ov_add (.ex ve_int) (.fz (ve_callO o__law_draw hr tk fx.g__law_draw fx.k__law_draw (vg_n 0 (vg_e (ve_nm 1) vg_nil))))) va_nil)))
      (vss_cons (vs_set (i := 6) sc__law_new_scene.nd (ve_dct (.cons (k := .inr "rows") pe_str (ve_slice slv (vo_nm 4) vp_none (vp_some (ve_nm 5))) (.cons (k := .inr "marks") pe_str (ve_slice slv (vo_nm 4) (vp_some ve_int) (vp_some (ve_op ov_add (.ex ve_int) (.fz (ve_callO o__law_draw hr tk fx.g__law_draw fx.k__law_draw (vg_n 0 (vg_e (ve_op ov_add (vo_nm 2) (.ex ve_int)) vg_nil))))))) .nil))))
      (vss_cons (vs_asg (ve_and (ve_nm 3) (ve_one (ve_cmp (ov_eq hr.u64) (.fz (ve_callO o__law_draw hr tk fx.g__law_draw fx.k__law_draw (vg_n 0 (vg_e ve_int vg_nil)))) (.ex ve_int)))) (vtg_sub (i := 6) (sv hr.u1) (ve_str)))
      (vss_one (vs_ret (ve_mv 6))))))
abbrev s__law_scene_text : Stmt := top 22
abbrev N__law_scene_text : List Str := ["scene", "lines", "x"]
abbrev P__law_scene_text : List Str := ["scene"]
theorem sc__law_scene_text : FnScope N__law_scene_text P__law_scene_text (defScope s__law_scene_text) := ⟨rfl, rfl, rfl, by decide +kernel, rfl, by decide +kernel, by decide +kernel⟩
def m__law_scene_text (K : PySem.W.Frag) : MS := (sSeq (sSet 1 (mO2 oAdd (.ex (mFrz (mLc (iL (mO2 oIx (.nm 0) (.ex (mC (.str "rows"))))) (tN 2) mYes (mO2 oAdd (.ex (mC (.str "row "))) (.nm 2)) [2]))) (.ex (mFrz (mLc (iL (mO2 oIx (.nm 0) (.ex (mC (.str "marks"))))) (tN 2) mYes (mO2 oAdd (.ex (mC (.str "mark "))) (.nm 2)) [2])))))
    (sRet (mStr1 oJoin (mC (.str "\n")) (mO2 oAdd (.nm 1) (.ex (mFrz (mO2 oMulA (.ex (mFrz (mLst (mAc (mC (.str "lots")) mA0)))) (.ex (mFrz (mO1 oInt1 (.ex (mFrz (mO2 oIx (.nm 0) (.ex (mC (.str "lots"))))))))))))))))
theorem v__law_scene_text (fx : Fx K mg) {f : Addr} {cdv : Value} {A : Around} {outer : List Env} {s : Shared} {H : Hp} {E : XK} (hr : RoomG 0 (BX P w K mg base N__law_scene_text "_law_scene_text" s__law_scene_text f cdv A outer s H E).A) (tk : Takes (BX P w K mg base N__law_scene_text "_law_scene_text" s__law_scene_text f cdv A outer s H E) (BW E)) (hpo : PassesOwn (model P w) (BX P w K mg base N__law_scene_text "_law_scene_text" s__law_scene_text f cdv A outer s H E).A (BX P w K mg base N__law_scene_text "_law_scene_text" s__law_scene_text f cdv A outer s H E).env (BX P w K mg base N__law_scene_text "_law_scene_text" s__law_scene_text f cdv A outer s H E).xe) :
    VSs (BX P w K mg base N__law_scene_text "_law_scene_text" s__law_scene_text f cdv A outer s H E) (BW E) 0 (defBody s__law_scene_text) (m__law_scene_text K) :=
  (vss_cons (vs_set (i := 1) sc__law_scene_text.nd (ve_op ov_add (.fz (ve_lc [("x", 2)] rfl sc__law_scene_text.nd (vi_list (ve_ix (ixv hr.u1) (vo_nm 0) (.ex (ve_str)))) (blkOk_by rfl) (fun _ _ _ _ _ => ⟨(vtc_name (i := 2) sc__law_scene_text.nd), vts_nil, (ve_op ov_add (.ex (ve_str)) (vo_nm 2))⟩))) (.fz (ve_lc [("x", 2)] rfl sc__law_scene_text.nd (vi_list (ve_ix (ixv hr.u1) (vo_nm 0) (.ex (ve_str)))) (blkOk_by rfl) (fun _ _ _ _ _ => ⟨(vtc_name (i := 2) sc__law_scene_text.nd), vts_nil, (ve_op ov_add (.ex (ve_str)) (vo_nm 2))⟩)))))
      (vss_one (vs_ret (ve_str1 F.slot_str_join F.type_str_join st_join (ve_str) (ve_op ov_add (vo_nm 1) (.fz (ve_op ov_mulA (.fz (ve_lst (va_cons (ve_str) va_nil))) (.fz (ve_ty1 cv_int rfl fx.b_int bt_int (.fz (ve_ix (ixv hr.u1) (vo_nm 0) (.ex (ve_str)))))))))))))
abbrev s__law_is_name : Stmt := top 23
abbrev N__law_is_name : List Str := ["word", "odd", "sign"]
abbrev P__law_is_name : List Str := ["word"]
theorem sc__law_is_name : FnScope N__law_is_name P__law_is_name (defScope s__law_is_name) := ⟨rfl, rfl, rfl, by decide +kernel, rfl, by decide +kernel, by decide +kernel⟩
def m__law_is_name (K : PySem.W.Frag) : MS := (sSeq (sSet 1 (mLc (iS (mNm 0)) (tN 2) (mTst (mO2 oNin (.nm 2) (.ex (mC (.str "abcdefghijklmnopqrstuvwxyz"))))) (mNm 2) [2]))
    (sRet (mAndV (mChain oLe oLe (mC (.int 1)) (mO1 oLen (.nm 0)) (mC (.int 12))) (mAndV (mO2 oEq (.nm 1) (.ex (mFrz (mLst mA0)))) (mO2 oNin (.nm 0) (.ex (mFrz (mCall (sp__law_barred K) g0))))))))
theorem v__law_is_name (fx : Fx K mg) (o__law_barred : OkF P w K mg base 1 (He.fAd K ("_law_barred", none)) P__law_barred (sp__law_barred K)) {f : Addr} {cdv : Value} {A : Around} {outer : List Env} {s : Shared} {H : Hp} {E : XK} (hr : RoomG 1 (BX P w K mg base N__law_is_name "_law_is_name" s__law_is_name f cdv A outer s H E).A) (tk : Takes (BX P w K mg base N__law_is_name "_law_is_name" s__law_is_name f cdv A outer s H E) (BW E)) (hpo : PassesOwn (model P w) (BX P w K mg base N__law_is_name "_law_is_name" s__law_is_name f cdv A outer s H E).A (BX P w K mg base N__law_is_name "_law_is_name" s__law_is_name f cdv A outer s H E).env (BX P w K mg base N__law_is_name "_law_is_name" s__law_is_name f cdv A outer s H E).xe) :
    VSs (BX P w K mg base N__law_is_name "_law_is_name" s__law_is_name f cdv A outer s H E) (BW E) 0 (defBody s__law_is_name) (m__law_is_name K) :=
  (vss_cons (vs_setLc (i := 1) [("sign", 2)] rfl sc__law_is_name.nd (vi_str (ve_nm 0)) (blkOk_by rfl) (fun _ _ _ _ _ => ⟨(vtc_name (i := 2) sc__law_is_name.nd), (vts_one (vt_cmp (ov_nin hr.u65) (vo_nm 2) (.ex (ve_str)))), (ve_nm 2)⟩))
      (vss_one (vs_ret (ve_and (ve_chain ov_le ov_le ve_int (ve_b1 cv_len rfl fx.b_len bt_len (vo_nm 0)) ve_int) (ve_and (ve_cmp (ov_eq hr.u64) (vo_nm 1) (.fz (ve_lst va_nil))) (ve_one (ve_cmp (ov_nin hr.u65) (vo_nm 0) (.fz (ve_callO0 o__law_barred hr tk fx.g__law_barred fx.k__law_barred)))))))))
abbrev s__law_bent : Stmt := top 24
abbrev N__law_bent : List Str := ["pen", "text", "odd", "lines", "k", "found", "way", "words", "j", "word", "at"]
abbrev P__law_bent : List Str := ["pen", "text", "odd"]
theorem sc__law_bent : FnScope N__law_bent P__law_bent (defScope s__law_bent) := ⟨rfl, rfl, rfl, by decide +kernel, rfl, by decide +kernel, by decide +kernel⟩
def i__law_bent_1 (K : PySem.W.Frag) : MS := (sIf (mTst (mO2 oLt (.nm 6) (.ex (mC (.int 3))))) (sAsg (mStr1 oJoin (mC (.str " ")) (mO2 oAdd (.ex (mFrz (mO2 oAdd (.ex (mFrz (mSlc oSl (.nm 7) mNo (mSo (mNm 8))))) (.ex (mFrz (mLst (mAc (mNm 9) mA0))))))) (.ex (mFrz (mSlc oSl (.nm 7) (mSo (mO2 oAdd (.nm 8) (.ex (mC (.int 1))))) mNo))))) (tSub 5 oPut (mNm 4))) (sIf (mTst (mO2 oEq (.nm 6) (.ex (mC (.int 3))))) (sAsg (mStr1 oJoin (mC (.str " ")) (mO2 oAdd (.ex (mFrz (mO2 oAdd (.ex (mFrz (mSlc oSl (.nm 7) mNo (mSo (mNm 8))))) (.ex (mFrz (mLst (mAc (mNm 9) mA0))))))) (.ex (mFrz (mSlc oSl (.nm 7) (mSo (mNm 8)) mNo))))) (tSub 5 oPut (mNm 4))) (sIf (mTst (mO2 oEq (.nm 6) (.ex (mC (.int 4))))) (sAsg (mStr1 oJoin (mC (.str " ")) (mO2 oAdd (.ex (mFrz (mSlc oSl (.nm 7) mNo (mSo (mNm 8))))) (.ex (mFrz (mSlc oSl (.nm 7) (mSo (mO2 oAdd (.nm 8) (.ex (mC (.int 1))))) mNo))))) (tSub 5 oPut (mNm 4))) (sIf (mTst (mO2 oEq (.nm 6) (.ex (mC (.int 5))))) (sAsg (mCall (sp__law_pick K) (gN 0 (gE (mLst (mAc (mO2 oAdd (.ex (mC (.str " "))) (.ex (mFrz (mO2 oIx (.nm 3) (.nm 4))))) (mAc (mO2 oAdd (.ex (mFrz (mO2 oIx (.nm 3) (.nm 4)))) (.ex (mC (.str " ")))) (mAc (mStr1 oJoin (mC (.str "  ")) (mNm 7)) (mAc (mC (.str "")) mA0))))) g0))) (tSub 5 oPut (mNm 4))) (sIf (mTst (mO2 oEq (.nm 6) (.ex (mC (.int 6))))) (sSet 5 (mO2 oAdd (.ex (mFrz (mSlc oSl (.nm 5) mNo (mSo (mNm 4))))) (.ex (mFrz (mSlc oSl (.nm 5) (mSo (mO2 oAdd (.nm 4) (.ex (mC (.int 1))))) mNo))))) (sIf (mTst (mO2 oEq (.nm 6) (.ex (mC (.int 7))))) (sSet 5 (mO2 oAdd (.ex (mFrz (mO2 oAdd (.ex (mFrz (mSlc oSl (.nm 5) mNo (mSo (mNm 4))))) (.ex (mFrz (mLst (mAc (mCall (sp__law_pick K) (gN 0 (gE (mNm 3) g0))) mA0))))))) (.ex (mFrz (mSlc oSl (.nm 5) (mSo (mNm 4)) mNo))))) (sIf (mTst (mO2 oEq (.nm 6) (.ex (mC (.int 8))))) (sSeq (sSet 10 (mCall (sp__law_draw K) (gN 0 (gE (mO1 oLen (.nm 3)) g0))))
    (sAsg (mTup (mAc (mO2 oIx (.nm 3) (.nm 10)) (mAc (mO2 oIx (.nm 3) (.nm 4)) mA0))) (tTup 2 (tCons (tSub 5 oPut (mNm 4)) (tCons (tSub 5 oPut (mNm 10)) tNil))))) (sSet 5 (mSlc oSl (.nm 5) mNo (mSo (mNm 4)))))))))))
def m__law_bent (K : PySem.W.Frag) : MS := (sSeq (sSet 3 (mStr1 oSplit (mNm 1) (mC (.str "\n"))))
    (sSeq (sPar3 4 5 6 (mAc (mCall (sp__law_draw K) (gN 0 (gE (mO1 oLen (.nm 3)) g0))) (mAc (mO1 oListOf (.nm 3)) (mAc (mCall (sp__law_draw K) (gN 0 (gE (mC (.int 10)) g0))) mA0))))
    (sSeq (sSet 7 (mStr1 oSplit (mO2 oIx (.nm 3) (.nm 4)) (mC (.str " "))))
    (sSeq (sSet 8 (mCall (sp__law_draw K) (gN 0 (gE (mO2 oAdd (.ex (mFrz (mO1 oLen (.nm 7)))) (.ex (mC (.int 1)))) g0))))
    (sSeq (sSet 9 (mCall (sp__law_pick K) (gN 0 (gE (mO2 oAdd (.ex (mFrz (mO2 oAdd (.nm 2) (.nm 7)))) (.ex (mFrz (mStr1 oSplit (mO2 oIx (.nm 3) (.ex (mC (.int 0)))) (mC (.str " ")))))) g0))))
    (sSeq (i__law_bent_1 K)
    (sRet (mStr1 oJoin (mC (.str "\n")) (mNm 5)))))))))
theorem v__law_bent (fx : Fx K mg) (o__law_draw : OkF P w K mg base 1 (He.fAd K ("_law_draw", none)) P__law_draw (sp__law_draw K)) (o__law_pick : OkF P w K mg base 2 (He.fAd K ("_law_pick", none)) P__law_pick (sp__law_pick K)) {f : Addr} {cdv : Value} {A : Around} {outer : List Env} {s : Shared} {H : Hp} {E : XK} (hr : RoomG 2 (BX P w K mg base N__law_bent "_law_bent" s__law_bent f cdv A outer s H E).A) (tk : Takes (BX P w K mg base N__law_bent "_law_bent" s__law_bent f cdv A outer s H E) (BW E)) (hpo : PassesOwn (model P w) (BX P w K mg base N__law_bent "_law_bent" s__law_bent f cdv A outer s H E).A (BX P w K mg base N__law_bent "_law_bent" s__law_bent f cdv A outer s H E).env (BX P w K mg base N__law_bent "_law_bent" s__law_bent f cdv A outer s H E).xe) :
    VSs (BX P w K mg base N__law_bent "_law_bent" s__law_bent f cdv A outer s H E) (BW E) 1 (defBody s__law_bent) (m__law_bent K) :=
  (vss_cons (vs_set (i := 3) sc__law_bent.nd (ve_str1 F.slot_str_split F.type_str_split st_split (ve_nm 1) (ve_str)))
      (vss_cons (vs_par3 (i := 4) (j := 5) (l := 6) rfl sc__law_bent.nd (va_cons (ve_callO o__law_draw hr tk fx.g__law_draw fx.k__law_draw (vg_n 0 (vg_e (ve_b1 cv_len rfl fx.b_len bt_len (vo_nm 3)) vg_nil))) (va_cons (ve_ty1 cv_list rfl fx.b_list bt_list (vo_nm 3)) (va_cons (ve_callO o__law_draw hr tk fx.g__law_draw fx.k__law_draw (vg_n 0 (vg_e ve_int vg_nil))) va_nil))))
      (vss_cons (vs_set (i := 7) sc__law_bent.nd (ve_str1 F.slot_str_split F.type_str_split st_split (ve_ix (ixv hr.u1) (vo_nm 3) (vo_nm 4)) (ve_str)))
      (vss_cons (vs_set (i := 8) sc__law_bent.nd (ve_callO o__law_draw hr tk fx.g__law_draw fx.k__law_draw (vg_n 0 (vg_e (ve_op ov_add (.fz (ve_b1 cv_len rfl fx.b_len bt_len (vo_nm 7))) (.ex ve_int)) vg_nil))))
      (vss_cons (vs_set (i := 9) sc__law_bent.nd (ve_callO o__law_pick hr tk fx.g__law_pick fx.k__law_pick (vg_n 0 (vg_e (ve_op ov_add (.fz (ve_op ov_add (vo_nm 2) (vo_nm 7))) (.fz (ve_str1 F.slot_str_split F.type_str_split st_split (ve_ix (ixv hr.u1) (vo_nm 3) (.ex ve_int)) (ve_str)))) vg_nil))))
      (vss_cons (vs_if (vt_cmp ov_lt (vo_nm 6) (.ex ve_int)) (vss_one (vs_asg (ve_str1 F.slot_str_join F.type_str_join st_join (ve_str) (ve_op ov_add (.fz (ve_op ov_add (.fz (ve_slice slv (vo_nm 7) vp_none (vp_some (ve_nm 8)))) (.fz (ve_lst (va_cons (ve_nm 9) va_nil))))) (.fz (ve_slice slv (vo_nm 7) (vp_some (ve_op ov_add (vo_nm 8) (.ex ve_int))) vp_none)))) (vtg_sub (i := 5) (sv hr.u1) (ve_nm 4)))) (vss_one (vs_if (vt_cmp (ov_eq hr.u64) (vo_nm 6) (.ex ve_int)) (vss_one (vs_asg (ve_str1 F.slot_str_join F.type_str_join st_join (ve_str) (ve_op ov_add (.fz (ve_op ov_add (.fz (ve_slice slv (vo_nm 7) vp_none (vp_some (ve_nm 8)))) (.fz (ve_lst (va_cons (ve_nm 9) va_nil))))) (.fz (ve_slice slv (vo_nm 7) (vp_some (ve_nm 8)) vp_none)))) (vtg_sub (i := 5) (sv hr.u1) (ve_nm 4)))) (vss_one (vs_if (vt_cmp (ov_eq hr.u64) (vo_nm 6) (.ex ve_int)) (vss_one (vs_asg (ve_str1 F.slot_str_join F.type_str_join st_join (ve_str) (ve_op ov_add (.fz (ve_slice slv (vo_nm 7) vp_none (vp_some (ve_nm 8)))) (.fz (ve_slice slv (vo_nm 7) (vp_some (ve_op ov_add (vo_nm 8) (.ex ve_int))) vp_none)))) (vtg_sub (i := 5) (sv hr.u1) (ve_nm 4)))) (vss_one (vs_if (vt_cmp (ov_eq hr.u64) (vo_nm 6) (.ex ve_int)) (vss_one (vs_asg (ve_callO o__law_pick hr tk fx.g__law_pick fx.k__law_pick (vg_n 0 (vg_e (ve_lst (va_cons (ve_op ov_add (.ex (ve_str)) (.fz (ve_ix (ixv hr.u1) (vo_nm 3) (vo_nm 4)))) (va_cons (ve_op ov_add (.fz (ve_ix (ixv hr.u1) (vo_nm 3) (vo_nm 4))) (.ex (ve_str))) (va_cons (ve_str1 F.slot_str_join F.type_str_join st_join (ve_str) (ve_nm 7)) (va_cons (ve_str) va_nil))))) vg_nil))) (vtg_sub (i := 5) (sv hr.u1) (ve_nm 4)))) (vss_one (vs_if (vt_cmp (ov_eq hr.u64) (vo_nm 6) (.ex ve_int)) (vss_one (vs_set (i := 5) sc__law_bent.nd (ve_op ov_add (.fz (ve_slice slv (vo_nm 5) vp_none (vp_some (ve_nm 4)))) (.fz (ve_slice slv (vo_nm 5) (vp_some (ve_op ov_add (vo_nm 4) (.ex ve_int))) vp_none))))) (vss_one (vs_if (vt_cmp (ov_eq hr.u64) (vo_nm 6) (.ex ve_int)) (vss_one (vs_set (i := 5) sc__law_bent.nd (ve_op ov_add (.fz (ve_op ov_add (.fz (ve_slice slv (vo_nm 5) vp_none (vp_some (ve_nm 4)))) (.fz (ve_lst (va_cons (ve_callO o__law_pick hr tk fx.g__law_pick fx.k__law_pick (vg_n 0 (vg_e (ve_nm 3) vg_nil))) va_nil))))) (.fz (ve_slice slv (vo_nm 5) (vp_some (ve_nm 4)) vp_none))))) (vss_one (vs_if (vt_cmp (ov_eq hr.u64) (vo_nm 6) (.ex ve_int)) (vss_cons (vs_set (i := 10) sc__law_bent.nd (ve_callO o__law_draw hr tk fx.g__law_draw fx.k__law_draw (vg_n 0 (vg_e (ve_b1 cv_len rfl fx.b_len bt_len (vo_nm 3)) vg_nil))))
      (vss_one (vs_asg (ve_tup (va_cons (ve_ix (ixv hr.u1) (vo_nm 3) (vo_nm 10)) (va_cons (ve_ix (ixv hr.u1) (vo_nm 3) (vo_nm 4)) va_nil))) (vtg_tup rfl (vtgs_cons (vtg_sub (i := 5) (sv hr.u1) (ve_nm 4)) (vtgs_cons (vtg_sub (i := 5) (sv hr.u1) (ve_nm 10)) vtgs_nil)))))) (vss_one (vs_set (i := 5) sc__law_bent.nd (ve_slice slv (vo_nm 5) vp_none (vp_some (ve_nm 4))))))))))))))))))
      (vss_one (vs_ret (ve_str1 F.slot_str_join F.type_str_join st_join (ve_str) (ve_nm 5))))))))))
abbrev s__law_read : Stmt := top 25
abbrev N__law_read : List Str := ["text", "rows", "marks", "lots", "lines", "at", "line", "words"]
abbrev P__law_read : List Str := ["text"]
theorem sc__law_read : FnScope N__law_read P__law_read (defScope s__law_read) := ⟨rfl, rfl, rfl, by decide +kernel, rfl, by decide +kernel, by decide +kernel⟩
def b__law_read_1 (K : PySem.W.Frag) : MS := (sSeq (sSet 7 (mStr1 oSplit (mNm 6) (mC (.str " "))))
    (sSeq (sIf (mAnd (mTst (mO2 oEq (.nm 7) (.ex (mFrz (mLst (mAc (mC (.str "lots")) mA0)))))) (mAnd (mTst (mO2 oNe (.nm 1) (.ex (mFrz (mLst mA0))))) (mNot (mTru (.nm 3))))) (sSeq (sSet 3 (mC (.bl true)))
    sCnt) sNil)
    (sSeq (sIf (mOr (mTru (.nm 3)) (mOr (mTst (mO2 oNe (.ex (mFrz (mO1 oLen (.nm 7)))) (.ex (mC (.int 2))))) (mOr (mNot (mTru (.ex (mFrz (mCall (sp__law_is_name K) (gE (mO2 oIx (.nm 7) (.ex (mC (.int 1)))) g0)))))) (mTst (mO2 oIn (.ex (mFrz (mO2 oIx (.nm 7) (.ex (mC (.int 1)))))) (.ex (mFrz (mO2 oAdd (.nm 1) (.nm 2))))))))) (sRet (mTup (mAc (mO2 oAdd (.nm 5) (.ex (mC (.int 1)))) (mAc (mNm 1) (mAc (mNm 2) (mAc (mNm 3) mA0)))))) sNil)
    (sIf (mAnd (mTst (mO2 oEq (.ex (mFrz (mO2 oIx (.nm 7) (.ex (mC (.int 0)))))) (.ex (mC (.str "row"))))) (mAnd (mTst (mO2 oEq (.nm 2) (.ex (mFrz (mLst mA0))))) (mTst (mO2 oLt (.ex (mFrz (mO1 oLen (.nm 1)))) (.ex (mC (.int 3))))))) (sExp (mMut 1 T.isBl oAppend (mAc (mO2 oIx (.nm 7) (.ex (mC (.int 1)))) mA0))) (sIf (mAnd (mTst (mO2 oEq (.ex (mFrz (mO2 oIx (.nm 7) (.ex (mC (.int 0)))))) (.ex (mC (.str "mark"))))) (mAnd (mTst (mO2 oNe (.nm 1) (.ex (mFrz (mLst mA0))))) (mTst (mO2 oLt (.ex (mFrz (mO1 oLen (.nm 2)))) (.ex (mC (.int 2))))))) (sExp (mMut 2 T.isBl oAppend (mAc (mO2 oIx (.nm 7) (.ex (mC (.int 1)))) mA0))) (sRet (mTup (mAc (mO2 oAdd (.nm 5) (.ex (mC (.int 1)))) (mAc (mNm 1) (mAc (mNm 2) (mAc (mNm 3) mA0)))))))))))
def m__law_read (K : PySem.W.Frag) : MS := (sSeq (sPar3 1 2 3 (mAc (mLst mA0) (mAc (mLst mA0) (mAc (mC (.bl false)) mA0))))
    (sSeq (sSet 4 (mIfE (mTst (mO2 oNe (.nm 0) (.ex (mC (.str ""))))) (mStr1 oSplit (mNm 0) (mC (.str "\n"))) (mLst mA0)))
    (sSeq (sFor (iEn (mAc (mNm 4) mA0)) (tTup 2 (tCons (tN 5) (tCons (tN 6) tNil))) (b__law_read_1 K))
    (sRet (mTup (mAc (mO1 oInt1 (.ex (mFrz (mO2 oEq (.nm 1) (.ex (mFrz (mLst mA0))))))) (mAc (mNm 1) (mAc (mNm 2) (mAc (mNm 3) mA0)))))))))
theorem v__law_read (fx : Fx K mg) (o__law_is_name : OkF P w K mg base 2 (He.fAd K ("_law_is_name", none)) P__law_is_name (sp__law_is_name K)) {f : Addr} {cdv : Value} {A : Around} {outer : List Env} {s : Shared} {H : Hp} {E : XK} (hr : RoomG 2 (BX P w K mg base N__law_read "_law_read" s__law_read f cdv A outer s H E).A) (tk : Takes (BX P w K mg base N__law_read "_law_read" s__law_read f cdv A outer s H E) (BW E)) (hpo : PassesOwn (model P w) (BX P w K mg base N__law_read "_law_read" s__law_read f cdv A outer s H E).A (BX P w K mg base N__law_read "_law_read" s__law_read f cdv A outer s H E).env (BX P w K mg base N__law_read "_law_read" s__law_read f cdv A outer s H E).xe) :
    VSs (BX P w K mg base N__law_read "_law_read" s__law_read f cdv A outer s H E) (BW E) 0 (defBody s__law_read) (m__law_read K) :=
  (vss_cons (vs_par3 (i := 1) (j := 2) (l := 3) rfl sc__law_read.nd (va_cons (ve_lst va_nil) (va_cons (ve_lst va_nil) (va_cons ve_bl va_nil))))
      (vss_cons (vs_set (i := 4) sc__law_read.nd (ve_ife (vt_cmp (ov_ne hr.u64) (vo_nm 0) (.ex (ve_str))) (ve_str1 F.slot_str_split F.type_str_split st_split (ve_nm 0) (ve_str)) (ve_lst va_nil)))
      (vss_cons (vs_for hpo rfl (vi_enum rfl fx.b_enumerate (va_cons (ve_nm 4) va_nil)) (vtg_tup rfl (vtgs_cons (vtg_name (i := 5) sc__law_read.nd) (vtgs_cons (vtg_name (i := 6) sc__law_read.nd) vtgs_nil))) (vss_cons (vs_set (i := 7) sc__law_read.nd (ve_str1 F.slot_str_split F.type_str_split st_split (ve_nm 6) (ve_str)))
      (vss_cons (vs_if (VW.vt (vw_and (vt_cmp (ov_eq hr.u64) (vo_nm 7) (.fz (ve_lst (va_cons (ve_str) va_nil)))) (vw_and (vt_cmp (ov_ne hr.u64) (vo_nm 1) (.fz (ve_lst va_nil))) (vw_and1 (vt_not (vt_tru (vo_nm 3))))))) (vss_cons (vs_set (i := 3) sc__law_read.nd ve_bl)
      (vss_one vs_cont)) vss_nil)
      (vss_cons (vs_if (VW.vt (vw_or (vt_tru (vo_nm 3)) (vw_or (vt_cmp (ov_ne hr.u64) (.fz (ve_b1 cv_len rfl fx.b_len bt_len (vo_nm 7))) (.ex ve_int)) (vw_or (vt_not (vt_tru (.fz (ve_callO o__law_is_name hr tk fx.g__law_is_name fx.k__law_is_name (vg_e (ve_ix (ixv hr.u1) (vo_nm 7) (.ex ve_int)) vg_nil))))) (vw_or1 (vt_cmp (ov_in hr.u65) (.fz (ve_ix (ixv hr.u1) (vo_nm 7) (.ex ve_int))) (.fz (ve_op ov_add (vo_nm 1) (vo_nm 2))))))))) (vss_one (vs_ret (ve_tup (va_cons (ve_op ov_add (vo_nm 5) (.ex ve_int)) (va_cons (ve_nm 1) (va_cons (ve_nm 2) (va_cons (ve_nm 3) va_nil))))))) vss_nil)
      (vss_one (vs_if (VW.vt (vw_and (vt_cmp (ov_eq hr.u64) (.fz (ve_ix (ixv hr.u1) (vo_nm 7) (.ex ve_int))) (.ex (ve_str))) (vw_and (vt_cmp (ov_eq hr.u64) (vo_nm 2) (.fz (ve_lst va_nil))) (vw_and1 (vt_cmp ov_lt (.fz (ve_b1 cv_len rfl fx.b_len bt_len (vo_nm 1))) (.ex ve_int)))))) (vss_one (vs_expr (ve_mut1 F.plainAttrs_list F.slot_list_append F.type_list_append mv_append (va_cons (ve_ix (ixv hr.u1) (vo_nm 7) (.ex ve_int)) va_nil)))) (vss_one (vs_if (VW.vt (vw_and (vt_cmp (ov_eq hr.u64) (.fz (ve_ix (ixv hr.u1) (vo_nm 7) (.ex ve_int))) (.ex (ve_str))) (vw_and (vt_cmp (ov_ne hr.u64) (vo_nm 1) (.fz (ve_lst va_nil))) (vw_and1 (vt_cmp ov_lt (.fz (ve_b1 cv_len rfl fx.b_len bt_len (vo_nm 2))) (.ex ve_int)))))) (vss_one (vs_expr (ve_mut1 F.plainAttrs_list F.slot_list_append F.type_list_append mv_append (va_cons (ve_ix (ixv hr.u1) (vo_nm 7) (.ex ve_int)) va_nil)))) (vss_one (vs_ret (ve_tup (va_cons (ve_op ov_add (vo_nm 5) (.ex ve_int)) (va_cons (ve_nm 1) (va_cons (ve_nm 2) (va_cons (ve_nm 3) va_nil)))))))))))))))
      (vss_one (vs_ret (ve_tup (va_cons (ve_ty1 cv_int rfl fx.b_int bt_int (.fz (ve_cmp (ov_eq hr.u64) (vo_nm 1) (.fz (ve_lst va_nil))))) (va_cons (ve_nm 1) (va_cons (ve_nm 2) (va_cons (ve_nm 3) va_nil))))))))))
abbrev s_Scene_init : Stmt := mth 13 0
abbrev N_Scene_init : List Str := ["self", "text", "rows", "marks", "has_lots", "lines", "at", "line", "words"]
abbrev P_Scene_init : List Str := ["self", "text"]
theorem sc_Scene_init : FnScope N_Scene_init P_Scene_init (defScope s_Scene_init) := ⟨rfl, rfl, rfl, by decide +kernel, rfl, by decide +kernel, by decide +kernel⟩
def b_Scene_init_1 (K : PySem.W.Frag) : MS := (sSeq (sSet 8 (mCall (sp_words_of K) (gE (mNm 7) g0)))
    (sSeq (sIf (mAnd (mTst (mO2 oEq (.nm 8) (.ex (mFrz (mLst (mAc (mC (.str "lots")) mA0)))))) (mAnd (mTst (mO2 oNe (.nm 2) (.ex (mFrz (mLst mA0))))) (mNot (mTru (.nm 4))))) (sSeq (sSet 4 (mC (.bl true)))
    sCnt) sNil)
    (sSeq (sIf (mOr (mTst (mO2 oNe (.ex (mFrz (mO1 oLen (.nm 8)))) (.ex (mC (.int 2))))) (mOr (mNot (mTru (.ex (mFrz (mCall (sp_is_name K) (gE (mO2 oIx (.nm 8) (.ex (mC (.int 1)))) g0)))))) (mOr (mTst (mO2 oIn (.ex (mFrz (mO2 oIx (.nm 8) (.ex (mC (.int 1)))))) (.ex (mFrz (mO2 oAdd (.nm 2) (.nm 3)))))) (mTru (.nm 4))))) (sRaise (mxC (He.ga K "BadScene") 1 ok_BadScene (mAc (mO2 oAdd (.nm 6) (.ex (mC (.int 1)))) mA0))) sNil)
    (sIf (mAnd (mTst (mO2 oEq (.ex (mFrz (mO2 oIx (.nm 8) (.ex (mC (.int 0)))))) (.ex (mC (.str "row"))))) (mAnd (mTst (mO2 oEq (.nm 3) (.ex (mFrz (mLst mA0))))) (mTst (mO2 oLt (.ex (mFrz (mO1 oLen (.nm 2)))) (.ex (mFrz (mC (.int 3)))))))) (sExp (mMut 2 T.isBl oAppend (mAc (mO2 oIx (.nm 8) (.ex (mC (.int 1)))) mA0))) (sIf (mAnd (mTst (mO2 oEq (.ex (mFrz (mO2 oIx (.nm 8) (.ex (mC (.int 0)))))) (.ex (mC (.str "mark"))))) (mAnd (mTst (mO2 oNe (.nm 2) (.ex (mFrz (mLst mA0))))) (mTst (mO2 oLt (.ex (mFrz (mO1 oLen (.nm 3)))) (.ex (mFrz (mC (.int 2)))))))) (sExp (mMut 3 T.isBl oAppend (mAc (mO2 oIx (.nm 8) (.ex (mC (.int 1)))) mA0))) (sRaise (mxC (He.ga K "BadScene") 1 ok_BadScene (mAc (mO2 oAdd (.nm 6) (.ex (mC (.int 1)))) mA0))))))))
def m_Scene_init (K : PySem.W.Frag) : MS := (sSeq (sPar3 2 3 4 (mAc (mLst mA0) (mAc (mLst mA0) (mAc (mC (.bl false)) mA0))))
    (sSeq (sSet 5 (mCall (sp_lines_of K) (gE (mNm 1) g0)))
    (sSeq (sFor (iEn (mAc (mNm 5) mA0)) (tTup 2 (tCons (tN 6) (tCons (tN 7) tNil))) (b_Scene_init_1 K))
    (sSeq (sIf (mTst (mO2 oEq (.nm 2) (.ex (mFrz (mLst mA0))))) (sRaise (mxC (He.ga K "BadScene") 1 ok_BadScene (mAc (mC (.int 1)) mA0))) sNil)
    (sSeq (sFldS 0 [He.ga K "Scene"] "text" (mNm 1))
    (sSeq (sFldS 0 [He.ga K "Scene"] "rows" (mO1 oTupOf (.nm 2)))
    (sSeq (sFldS 0 [He.ga K "Scene"] "marks" (mO1 oTupOf (.nm 3)))
    (sFldS 0 [He.ga K "Scene"] "has_lots" (mNm 4)))))))))
theorem v_Scene_init (fx : Fx K mg) (o_is_name : OkF P w K mg base 1 (He.fAd K ("is_name", none)) P_is_name (sp_is_name K)) (o_lines_of : OkF P w K mg base 1 (He.fAd K ("lines_of", none)) P_lines_of (sp_lines_of K)) (o_words_of : OkF P w K mg base 1 (He.fAd K ("words_of", none)) P_words_of (sp_words_of K)) (o_BadScene : OkE P w K mg base 1 (He.fAd K ("BadScene", some "__init__")) P_BadScene_init 1 (He.ga K "BadScene") ok_BadScene) {f : Addr} {cdv : Value} {A : Around} {outer : List Env} {s : Shared} {H : Hp} {E : XK} (hr : RoomG 2 (BX P w K mg base N_Scene_init "Scene.__init__" s_Scene_init f cdv A outer s H E).A) (tk : Takes (BX P w K mg base N_Scene_init "Scene.__init__" s_Scene_init f cdv A outer s H E) (BW E)) (hpo : PassesOwn (model P w) (BX P w K mg base N_Scene_init "Scene.__init__" s_Scene_init f cdv A outer s H E).A (BX P w K mg base N_Scene_init "Scene.__init__" s_Scene_init f cdv A outer s H E).env (BX P w K mg base N_Scene_init "Scene.__init__" s_Scene_init f cdv A outer s H E).xe) :
    VSs (BX P w K mg base N_Scene_init "Scene.__init__" s_Scene_init f cdv A outer s H E) (BW E) 1 (defBody s_Scene_init) (m_Scene_init K) :=
  (vss_cons (vs_par3 (i := 2) (j := 3) (l := 4) rfl sc_Scene_init.nd (va_cons (ve_lst va_nil) (va_cons (ve_lst va_nil) (va_cons ve_bl va_nil))))
      (vss_cons (vs_set (i := 5) sc_Scene_init.nd (ve_callO o_lines_of hr tk fx.g_lines_of fx.k_lines_of (vg_e (ve_nm 1) vg_nil)))
      (vss_cons (vs_for hpo rfl (vi_enum rfl fx.b_enumerate (va_cons (ve_nm 5) va_nil)) (vtg_tup rfl (vtgs_cons (vtg_name (i := 6) sc_Scene_init.nd) (vtgs_cons (vtg_name (i := 7) sc_Scene_init.nd) vtgs_nil))) (vss_cons (vs_set (i := 8) sc_Scene_init.nd (ve_callO o_words_of hr tk fx.g_words_of fx.k_words_of (vg_e (ve_nm 7) vg_nil)))
      (vss_cons (vs_if (VW.vt (vw_and (vt_cmp (ov_eq hr.u64) (vo_nm 8) (.fz (ve_lst (va_cons (ve_str) va_nil)))) (vw_and (vt_cmp (ov_ne hr.u64) (vo_nm 2) (.fz (ve_lst va_nil))) (vw_and1 (vt_not (vt_tru (vo_nm 4))))))) (vss_cons (vs_set (i := 4) sc_Scene_init.nd ve_bl)
      (vss_one vs_cont)) vss_nil)
      (vss_cons (vs_if (VW.vt (vw_or (vt_cmp (ov_ne hr.u64) (.fz (ve_b1 cv_len rfl fx.b_len bt_len (vo_nm 8))) (.ex ve_int)) (vw_or (vt_not (vt_tru (.fz (ve_callO o_is_name hr tk fx.g_is_name fx.k_is_name (vg_e (ve_ix (ixv hr.u1) (vo_nm 8) (.ex ve_int)) vg_nil))))) (vw_or (vt_cmp (ov_in hr.u65) (.fz (ve_ix (ixv hr.u1) (vo_nm 8) (.ex ve_int))) (.fz (ve_op ov_add (vo_nm 2) (vo_nm 3)))) (vw_or1 (vt_tru (vo_nm 4))))))) (vss_one (vs_raise rfl tk (vx_mkO o_BadScene fx.x_BadScene hr fx.g_BadScene (va_cons (ve_op ov_add (vo_nm 6) (.ex ve_int)) va_nil)))) vss_nil)
      (vss_one (vs_if (VW.vt (vw_and (vt_cmp (ov_eq hr.u64) (.fz (ve_ix (ixv hr.u1) (vo_nm 8) (.ex ve_int))) (.ex (ve_str))) (vw_and (vt_cmp (ov_eq hr.u64) (vo_nm 3) (.fz (ve_lst va_nil))) (vw_and1 (vt_cmp ov_lt (.fz (ve_b1 cv_len rfl fx.b_len bt_len (vo_nm 2))) (.fz (ve_gint fx.c_MOST_ROWS))))))) (vss_one (vs_expr (ve_mut1 F.plainAttrs_list F.slot_list_append F.type_list_append mv_append (va_cons (ve_ix (ixv hr.u1) (vo_nm 8) (.ex ve_int)) va_nil)))) (vss_one (vs_if (VW.vt (vw_and (vt_cmp (ov_eq hr.u64) (.fz (ve_ix (ixv hr.u1) (vo_nm 8) (.ex ve_int))) (.ex (ve_str))) (vw_and (vt_cmp (ov_ne hr.u64) (vo_nm 2) (.fz (ve_lst va_nil))) (vw_and1 (vt_cmp ov_lt (.fz (ve_b1 cv_len rfl fx.b_len bt_len (vo_nm 3))) (.fz (ve_gint fx.c_MOST_MARKS))))))) (vss_one (vs_expr (ve_mut1 F.plainAttrs_list F.slot_list_append F.type_list_append mv_append (va_cons (ve_ix (ixv hr.u1) (vo_nm 8) (.ex ve_int)) va_nil)))) (vss_one (vs_raise rfl tk (vx_mkO o_BadScene fx.x_BadScene hr fx.g_BadScene (va_cons (ve_op ov_add (vo_nm 6) (.ex ve_int)) va_nil))))))))))))
      (vss_cons (vs_if (vt_cmp (ov_eq hr.u64) (vo_nm 2) (.fz (ve_lst va_nil))) (vss_one (vs_raise rfl tk (vx_mkO o_BadScene fx.x_BadScene hr fx.g_BadScene (va_cons ve_int va_nil)))) vss_nil)
      (vss_cons (vs_fld (i := 0) fx.f_Scene_text (ve_nm 1))
      (vss_cons (vs_fld (i := 0) fx.f_Scene_rows (ve_ty1 cv_tup rfl fx.b_tuple bt_tuple (vo_nm 2)))
      (vss_cons (vs_fld (i := 0) fx.f_Scene_marks (ve_ty1 cv_tup rfl fx.b_tuple bt_tuple (vo_nm 3)))
      (vss_one (vs_fld (i := 0) fx.f_Scene_has_lots (ve_nm 4))))))))))
abbrev s__law_told : Stmt := top 26
abbrev N__law_told : List Str := ["text", "made", "e"]
abbrev P__law_told : List Str := ["text"]
theorem sc__law_told : FnScope N__law_told P__law_told (defScope s__law_told) := ⟨rfl, rfl, rfl, by decide +kernel, rfl, by decide +kernel, by decide +kernel⟩
def m__law_told (K : PySem.W.Frag) : MS := (sSeq (sTryAs K (.ref (He.ga K "BadScene")) 2 (sSet 1 (mMake (He.ga K "Scene") (sp_Scene_init K) (gE (mNm 0) g0))) (fun a C d => (sRet (mIfE (mAnd (mTru (.ex (mFrz (mXI K 2 (.ref (He.ga K "SeatError")) a C d)))) (mTru (.ex (mFrz (mXI K 2 (.type "ValueError") a C d))))) (mXF K 2 "line" a C d) (mC (.str "odd"))))))
    (sRet (mTup (mAc (mAtr [He.ga K "Scene"] "text" (.nm 1)) (mAc (mAtr [He.ga K "Scene"] "rows" (.nm 1)) (mAc (mAtr [He.ga K "Scene"] "marks" (.nm 1)) (mAc (mAtr [He.ga K "Scene"] "has_lots" (.nm 1)) mA0)))))))
theorem v__law_told (fx : Fx K mg) (o_Scene_init : OkF P w K mg base 3 (He.fAd K ("Scene", some "__init__")) P_Scene_init (sp_Scene_init K)) {f : Addr} {cdv : Value} {A : Around} {outer : List Env} {s : Shared} {H : Hp} {E : XK} (hr : RoomG 4 (BX P w K mg base N__law_told "_law_told" s__law_told f cdv A outer s H E).A) (tk : Takes (BX P w K mg base N__law_told "_law_told" s__law_told f cdv A outer s H E) (BW E)) (hpo : PassesOwn (model P w) (BX P w K mg base N__law_told "_law_told" s__law_told f cdv A outer s H E).A (BX P w K mg base N__law_told "_law_told" s__law_told f cdv A outer s H E).env (BX P w K mg base N__law_told "_law_told" s__law_told f cdv A outer s H E).xe) :
    VSs (BX P w K mg base N__law_told "_law_told" s__law_told f cdv A outer s H E) (BW E) 0 (defBody s__law_told) (m__law_told K) :=
  (vss_cons (vs_tryAs (i := 2) rfl rfl sc__law_told.nd ⟨rfl, by decide, .inl fx.g_BadScene⟩ tk (fun W' pn xe tk' hpo => (vss_one (vs_set (i := 1) sc__law_told.nd (ve_makeO o_Scene_init fx.m_Scene hr tk' fx.g_Scene (vg_e (ve_nm 0) vg_nil))))) ⟨fun a C oe d pn hz hf => (vss_one (vs_ret (ve_ife (VW.vt (vw_and (vt_tru (.fz (ve_XI 2 hz hf (pe_glob (v := .ref _) rfl fx.g_SeatError rfl) (.own _) fx.b_isinstance))) (vw_and1 (vt_tru (.fz (ve_XI 2 hz hf (pe_bltn (v := .ty "ValueError") rfl fx.b_ValueError bt_ValueError rfl) (.ty _) fx.b_isinstance)))))) (ve_XF 2 hz hf) (ve_str))))⟩)
      (vss_one (vs_ret (ve_tup (va_cons (ve_attr fx.f_Scene_text (vo_nm 1)) (va_cons (ve_attr fx.f_Scene_rows (vo_nm 1)) (va_cons (ve_attr fx.f_Scene_marks (vo_nm 1)) (va_cons (ve_attr fx.f_Scene_has_lots (vo_nm 1)) va_nil))))))))
abbrev s_Scene_eq : Stmt := mth 13 1
abbrev N_Scene_eq : List Str := ["self", "other"]
abbrev P_Scene_eq : List Str := ["self", "other"]
theorem sc_Scene_eq : FnScope N_Scene_eq P_Scene_eq (defScope s_Scene_eq) := ⟨rfl, rfl, rfl, by decide +kernel, rfl, by decide +kernel, by decide +kernel⟩
def m_Scene_eq (K : PySem.W.Frag) : MS := (sRet (mAndV (mO2 (oIsi K) (.nm 1) (.ex (mFrz (mC (.ref (He.ga K "Scene")))))) (mO2 oEq (.ex (mFrz (mAtr [He.ga K "Scene"] "text" (.nm 0)))) (.ex (mFrz (mAtr [He.ga K "Scene"] "text" (.nm 1)))))))
theorem v_Scene_eq (fx : Fx K mg) {f : Addr} {cdv : Value} {A : Around} {outer : List Env} {s : Shared} {H : Hp} {E : XK} (hr : RoomG 0 (BX P w K mg base N_Scene_eq "Scene.__eq__" s_Scene_eq f cdv A outer s H E).A) (tk : Takes (BX P w K mg base N_Scene_eq "Scene.__eq__" s_Scene_eq f cdv A outer s H E) (BW E)) (hpo : PassesOwn (model P w) (BX P w K mg base N_Scene_eq "Scene.__eq__" s_Scene_eq f cdv A outer s H E).A (BX P w K mg base N_Scene_eq "Scene.__eq__" s_Scene_eq f cdv A outer s H E).env (BX P w K mg base N_Scene_eq "Scene.__eq__" s_Scene_eq f cdv A outer s H E).xe) :
    VSs (BX P w K mg base N_Scene_eq "Scene.__eq__" s_Scene_eq f cdv A outer s H E) (BW E) 0 (defBody s_Scene_eq) (m_Scene_eq K) :=
  (vss_one (vs_ret (ve_and (ve_b2 cv_isi rfl fx.b_isinstance bt_isinstance (vo_nm 1) (.fz (ve_gcls fx.g_Scene))) (ve_one (ve_cmp (ov_eq hr.u64) (.fz (ve_attr fx.f_Scene_text (vo_nm 0))) (.fz (ve_attr fx.f_Scene_text (vo_nm 1))))))))
abbrev s_law : Stmt := top 27
abbrev N_law : List Str := ["script", "pen", "odd", "turn", "scene", "text", "made", "shown", "bent", "change", "one", "wrong", "rows", "marks", "lots", "same"]
abbrev P_law : List Str := ["script"]
theorem sc_law : FnScope N_law P_law (defScope s_law) := ⟨rfl, rfl, rfl, by decide +kernel, rfl, by decide +kernel, by decide +kernel⟩
def b_law_1 (K : PySem.W.Frag) : MS := (sSet 8 (mCall (sp__law_bent K) (gN 1 (gE (mNm 8) (gE (mNm 2) g0)))))
def b_law_2 (K : PySem.W.Frag) : MS := (sSeq (sAsg (mCall (sp__law_read K) (gE (mNm 10) g0)) (tTup 4 (tCons (tN 11) (tCons (tN 12) (tCons (tN 13) (tCons (tN 14) tNil))))))
    (sSeq (sIf (mTst (mRepr (fun x y => decide (x ≠ y)) (mCall (sp__law_told K) (gE (mNm 10) g0)) (mIfE (mTst (mO2 oGt (.nm 11) (.ex (mC (.int 0))))) (mNm 11) (mTup (mAc (mNm 10) (mAc (mO1 oTupOf (.nm 12)) (mAc (mO1 oTupOf (.nm 13)) (mAc (mNm 14) mA0)))))))) (sRet (mC (.bl false))) sNil)
    (sSeq (sSet 15 (mO2 oEq (.nm 10) (.nm 5)))
    (sIf (mAnd (mTst (mO2 oEq (.nm 11) (.ex (mC (.int 0))))) (mTst (mO2 oNe (.ex (mFrz (mLst (mAc (mO2 (oOwn K [He.ga K "Scene"] (sp_Scene_eq K)) (.ex (mFrz (mMake (He.ga K "Scene") (sp_Scene_init K) (gE (mNm 10) g0)))) (.ex (mFrz (mNm 6)))) (mAc (mO2 (oOwnNe K [He.ga K "Scene"] (sp_Scene_eq K)) (.ex (mFrz (mNm 6))) (.ex (mFrz (mMake (He.ga K "Scene") (sp_Scene_init K) (gE (mNm 10) g0))))) mA0))))) (.ex (mFrz (mLst (mAc (mNm 15) (mAc (mNotV (mNm 15)) mA0)))))))) (sRet (mC (.bl false))) sNil))))
def b_law_3 (K : PySem.W.Frag) : MS := (sSeq (sSet 4 (mCall (sp__law_new_scene K) (gN 1 (gE (mC (.int 3)) (gE (mC (.int 2)) (gE (mC (.bl true)) g0))))))
    (sSeq (sSet 5 (mCall (sp__law_scene_text K) (gE (mNm 4) g0)))
    (sSeq (sSet 6 (mMake (He.ga K "Scene") (sp_Scene_init K) (gE (mNm 5) g0)))
    (sSeq (sSet 7 (mLst (mAc (mAtr [He.ga K "Scene"] "text" (.nm 6)) (mAc (mAtr [He.ga K "Scene"] "rows" (.nm 6)) (mAc (mAtr [He.ga K "Scene"] "marks" (.nm 6)) (mAc (mAtr [He.ga K "Scene"] "has_lots" (.nm 6)) mA0))))))
    (sSeq (sIf (mTst (mRepr (fun x y => decide (x ≠ y)) (mNm 7) (mLst (mAc (mNm 5) (mAc (mO1 oTupOf (.ex (mFrz (mO2 oIx (.nm 4) (.ex (mC (.str "rows"))))))) (mAc (mO1 oTupOf (.ex (mFrz (mO2 oIx (.nm 4) (.ex (mC (.str "marks"))))))) (mAc (mO2 oIx (.nm 4) (.ex (mC (.str "lots")))) mA0))))))) (sRet (mC (.bl false))) sNil)
    (sSeq (sSet 8 (mNm 5))
    (sSeq (sFor (iR1 (mAc (mO2 oAdd (.ex (mC (.int 1))) (.ex (mFrz (mCall (sp__law_draw K) (gN 1 (gE (mC (.int 2)) g0)))))) mA0)) (tN 9) (b_law_1 K))
    (sFor (iT (mTup (mAc (mNm 8) (mAc (mO2 oAdd (.nm 5) (.ex (mC (.str "\n")))) (mAc (mO2 oAdd (.nm 5) (.ex (mC (.str "\nlots")))) (mAc (mO2 oAdd (.ex (mFrz (mO2 oAdd (.nm 5) (.ex (mC (.str "\nmark q")))))) (.ex (mFrz (mO2 oMulA (.ex (mC (.str "q"))) (.ex (mC (.int 11))))))) (mAc (mO2 oAdd (.ex (mC (.str "row zz\n"))) (.nm 5)) (mAc (mC (.str "")) mA0)))))))) (tN 10) (b_law_2 K)))))))))
def m_law (K : PySem.W.Frag) : MS := (sSeq (sSet 1 (mCall (sp__law_begun_pen K) (gE (mNm 0) g0)))
    (sSeq (sSet 2 (mLst (mAc (mC (.str "row")) (mAc (mC (.str "mark")) (mAc (mC (.str "lots")) (mAc (mC (.str "lot")) (mAc (mC (.str "")) (mAc (mC (.str "A")) (mAc (mC (.str "x1")) (mAc (mC (.str "it")) (mAc (mO2 oMulA (.ex (mC (.str "q"))) (.ex (mC (.int 12)))) (mAc (mO2 oMulA (.ex (mC (.str "q"))) (.ex (mC (.int 13)))) (mAc (mC (.str "row q")) (mAc (mC (.str "z")) mA0))))))))))))))
    (sSeq (sFor (iR1 (mAc (mC (.int 10)) mA0)) (tN 3) (b_law_3 K))
    (sRet (mC (.bl true))))))
theorem v_law (fx : Fx K mg) (o_Scene_eq : OkF P w K mg base 1 (He.fAd K ("Scene", some "__eq__")) P_Scene_eq (sp_Scene_eq K)) (o__law_begun_pen : OkF P w K mg base 1 (He.fAd K ("_law_begun_pen", none)) P__law_begun_pen (sp__law_begun_pen K)) (o__law_bent : OkF P w K mg base 3 (He.fAd K ("_law_bent", none)) P__law_bent (sp__law_bent K)) (o__law_draw : OkF P w K mg base 1 (He.fAd K ("_law_draw", none)) P__law_draw (sp__law_draw K)) (o__law_new_scene : OkF P w K mg base 4 (He.fAd K ("_law_new_scene", none)) P__law_new_scene (sp__law_new_scene K)) (o__law_read : OkF P w K mg base 3 (He.fAd K ("_law_read", none)) P__law_read (sp__law_read K)) (o__law_scene_text : OkF P w K mg base 1 (He.fAd K ("_law_scene_text", none)) P__law_scene_text (sp__law_scene_text K)) (o__law_told : OkF P w K mg base 5 (He.fAd K ("_law_told", none)) P__law_told (sp__law_told K)) (o_Scene_init : OkF P w K mg base 3 (He.fAd K ("Scene", some "__init__")) P_Scene_init (sp_Scene_init K)) {f : Addr} {cdv : Value} {A : Around} {outer : List Env} {s : Shared} {H : Hp} {E : XK} (hr : RoomG 5 (BX P w K mg base N_law "law" s_law f cdv A outer s H E).A) (tk : Takes (BX P w K mg base N_law "law" s_law f cdv A outer s H E) (BW E)) (hpo : PassesOwn (model P w) (BX P w K mg base N_law "law" s_law f cdv A outer s H E).A (BX P w K mg base N_law "law" s_law f cdv A outer s H E).env (BX P w K mg base N_law "law" s_law f cdv A outer s H E).xe) :
    VSs (BX P w K mg base N_law "law" s_law f cdv A outer s H E) (BW E) 0 (defBody s_law) (m_law K) :=
  (vss_cons (vs_set (i := 1) sc_law.nd (ve_callO o__law_begun_pen hr tk fx.g__law_begun_pen fx.k__law_begun_pen (vg_e (ve_nm 0) vg_nil)))
      (vss_cons (vs_set (i := 2) sc_law.nd (ve_lst (va_cons (ve_str) (va_cons (ve_str) (va_cons (ve_str) (va_cons (ve_str) (va_cons (ve_str) (va_cons (ve_str) (va_cons (ve_str) (va_cons (ve_str) (va_cons (ve_op ov_mulA (.ex (ve_str)) (.ex ve_int)) (va_cons (ve_op ov_mulA (.ex (ve_str)) (.ex ve_int)) (va_cons (ve_str) (va_cons (ve_str) va_nil))))))))))))))
      (vss_cons (vs_for hpo rfl (vi_range1 rfl fx.b_range (va_cons ve_int va_nil)) (vtg_name (i := 3) sc_law.nd) (vss_cons (vs_set (i := 4) sc_law.nd (ve_callO o__law_new_scene hr tk fx.g__law_new_scene fx.k__law_new_scene (vg_n 1 (vg_e ve_int (vg_e ve_int (vg_e ve_bl vg_nil))))))
      (vss_cons (vs_set (i := 5) sc_law.nd (ve_callO o__law_scene_text hr tk fx.g__law_scene_text fx.k__law_scene_text (vg_e (ve_nm 4) vg_nil)))
      (vss_cons (vs_set (i := 6) sc_law.nd (ve_makeO o_Scene_init fx.m_Scene hr tk fx.g_Scene (vg_e (ve_nm 5) vg_nil)))
      (vss_cons (vs_set (i := 7) sc_law.nd (ve_lst (va_cons (ve_attr fx.f_Scene_text (vo_nm 6)) (va_cons (ve_attr fx.f_Scene_rows (vo_nm 6)) (va_cons (ve_attr fx.f_Scene_marks (vo_nm 6)) (va_cons (ve_attr fx.f_Scene_has_lots (vo_nm 6)) va_nil))))))
      (vss_cons (vs_if (vt_reprNe hr.z rfl fx.b_repr (ve_nm 7) (ve_lst (va_cons (ve_nm 5) (va_cons (ve_ty1 cv_tup rfl fx.b_tuple bt_tuple (.fz (ve_ix (ixv hr.u1) (vo_nm 4) (.ex (ve_str))))) (va_cons (ve_ty1 cv_tup rfl fx.b_tuple bt_tuple (.fz (ve_ix (ixv hr.u1) (vo_nm 4) (.ex (ve_str))))) (va_cons (ve_ix (ixv hr.u1) (vo_nm 4) (.ex (ve_str))) va_nil)))))) (vss_one (vs_ret ve_bl)) vss_nil)
      (vss_cons (vs_set (i := 8) sc_law.nd (ve_nm 5))
      (vss_cons (vs_for hpo rfl (vi_range1 rfl fx.b_range (va_cons (ve_op ov_add (.ex ve_int) (.fz (ve_callO o__law_draw hr tk fx.g__law_draw fx.k__law_draw (vg_n 1 (vg_e ve_int vg_nil))))) va_nil)) (vtg_name (i := 9) sc_law.nd) (vss_one (vs_set (i := 8) sc_law.nd (ve_callO o__law_bent hr tk fx.g__law_bent fx.k__law_bent (vg_n 1 (vg_e (ve_nm 8) (vg_e (ve_nm 2) vg_nil)))))))
      (vss_one (vs_for hpo rfl (vi_tup (ve_tup (va_cons (ve_nm 8) (va_cons (ve_op ov_add (vo_nm 5) (.ex (ve_str))) (va_cons (ve_op ov_add (vo_nm 5) (.ex (ve_str))) (va_cons (ve_op ov_add (.fz (ve_op ov_add (vo_nm 5) (.ex (ve_str)))) (.fz (ve_op ov_mulA (.ex (ve_str)) (.ex ve_int)))) (va_cons (ve_op ov_add (.ex (ve_str)) (vo_nm 5)) (va_cons (ve_str) va_nil)))))))) (vtg_name (i := 10) sc_law.nd) (vss_cons (vs_asg (ve_callO o__law_read hr tk fx.g__law_read fx.k__law_read (vg_e (ve_nm 10) vg_nil)) (vtg_tup rfl (vtgs_cons (vtg_name (i := 11) sc_law.nd) (vtgs_cons (vtg_name (i := 12) sc_law.nd) (vtgs_cons (vtg_name (i := 13) sc_law.nd) (vtgs_cons (vtg_name (i := 14) sc_law.nd) vtgs_nil))))))
      (vss_cons (vs_if (vt_reprNe hr.z rfl fx.b_repr (ve_callO o__law_told hr tk fx.g__law_told fx.k__law_told (vg_e (ve_nm 10) vg_nil)) (ve_ife (vt_cmp ov_gt (vo_nm 11) (.ex ve_int)) (ve_nm 11) (ve_tup (va_cons (ve_nm 10) (va_cons (ve_ty1 cv_tup rfl fx.b_tuple bt_tuple (vo_nm 12)) (va_cons (ve_ty1 cv_tup rfl fx.b_tuple bt_tuple (vo_nm 13)) (va_cons (ve_nm 14) va_nil))))))) (vss_one (vs_ret ve_bl)) vss_nil)
      (vss_cons (vs_set (i := 15) sc_law.nd (ve_cmp (ov_eq hr.u64) (vo_nm 10) (vo_nm 5)))
      (vss_one (vs_if (VW.vt (vw_and (vt_cmp (ov_eq hr.u64) (vo_nm 11) (.ex ve_int)) (vw_and1 (vt_cmp (ov_ne hr.u64) (.fz (ve_lst (va_cons (ve_cmp (ov_ownO o_Scene_eq fx.q_Scene (hr.mono (by decide))) (.fz (ve_makeO o_Scene_init fx.m_Scene hr tk fx.g_Scene (vg_e (ve_nm 10) vg_nil))) (.fz (ve_nm 6))) (va_cons (ve_cmp (ov_ownNeO o_Scene_eq fx.q_Scene (hr.mono (by decide))) (.fz (ve_nm 6)) (.fz (ve_makeO o_Scene_init fx.m_Scene hr tk fx.g_Scene (vg_e (ve_nm 10) vg_nil)))) va_nil)))) (.fz (ve_lst (va_cons (ve_nm 15) (va_cons (ve_not (ve_nm 15)) va_nil)))))))) (vss_one (vs_ret ve_bl)) vss_nil)))))))))))))))
      (vss_one (vs_ret ve_bl)))))
end
end K01
set_option Elab.async false
set_option linter.all false
set_option autoImplicit false
set_option maxRecDepth 100000
set_option maxHeartbeats 4000000
namespace K01
open PySem PySem.Spec PySem.Calls L2 VL
open PyProof.Rows hiding St

theorem py_ints (l : List Int) : (dInts l).py = some (.list (l.map PyData.int)) := by
  have key : ∀ l : List Int, D.pys (l.map D.int) = some (l.map PyData.int) := by
    intro l
    induction l with
    | nil => rfl
    | cons a l ih => simp [D.pys, D.py, ih]
  simp [dInts, D.py, key]
theorem depth_ints (l : List Int) : (PyData.list (l.map PyData.int)).depth ≤ 64 := by
  have key : ∀ l : List Int, PyData.depthAll (l.map PyData.int) ≤ 1 := by
    intro l
    induction l with
    | nil => simp [PyData.depthAll]
    | cons a l ih => simp [PyData.depthAll, PyData.depth]; omega
  have := key l
  simp [PyData.depth]
  omega
theorem eqb_ints (l : List Int) : Eqb (dInts l) := ⟨_, py_ints l, depth_ints l⟩
theorem eqb_nil : Eqb (.lst []) := eqb_ints []
theorem eq_ints_nil (l : List Int) : eqD (dInts l) (.lst []) = l.isEmpty := by
  have h : (D.lst []).py = some (.list []) := rfl
  unfold eqD
  rw [py_ints, h]
  cases l with
  | nil => rfl
  | cons a l => rfl
section
variable {α : Type} {a b c x : α}
theorem lk_cells : look [((.inr "cells" : Key), a), (.inr "turn", b), (.inr "left", c)] (.inr "cells") = some a := rfl
theorem lk_turn : look [((.inr "cells" : Key), a), (.inr "turn", b), (.inr "left", c)] (.inr "turn") = some b := rfl
theorem lk_left : look [((.inr "cells" : Key), a), (.inr "turn", b), (.inr "left", c)] (.inr "left") = some c := rfl
theorem pt_turn : putD [((.inr "cells" : Key), a), (.inr "turn", b), (.inr "left", c)] (.inr "turn") x = [(.inr "cells", a), (.inr "turn", x), (.inr "left", c)] := rfl
theorem pt_left : putD [((.inr "cells" : Key), a), (.inr "turn", b), (.inr "left", c)] (.inr "left") x = [(.inr "cells", a), (.inr "turn", b), (.inr "left", x)] := rfl
end
theorem divW {i j : Int} (h : 0 < j) (h2 : j < 2 ^ 300) : CDivW i j := ⟨h, by
  rw [Nat.log2_lt (by omega)]
  have : j.natAbs < 2 ^ 300 := by omega
  exact Nat.lt_of_lt_of_le this (Nat.pow_le_pow_right (by decide) (by decide))⟩
theorem mulW {i j : Int} (h : -(2 ^ 300) < i ∧ i < 2 ^ 300) (h2 : -(2 ^ 300) < j ∧ j < 2 ^ 300) : CMulW i j := by
  have key : ∀ n : Nat, n < 2 ^ 300 → n.log2 ≤ 300 := by
    intro n hn
    by_cases h0 : n = 0
    · subst h0; decide
    · exact Nat.le_of_lt ((Nat.log2_lt h0).2 hn)
  have a := key i.natAbs (by omega)
  have b := key j.natAbs (by omega)
  unfold CMulW
  omega
theorem powW : CPow 10 18 := ⟨by decide, by decide, by decide⟩
theorem atI_ok {α : Type} {l : List α} {i : Int} (h : 0 ≤ i) (h2 : i < l.length) : ∃ x, atI l i = some x ∧ x ∈ l := by
  have e : atI l i = l[i.toNat]? := by
    have e2 : ixN l.length i = some i.toNat := by
      unfold ixN
      rw [if_pos h, if_pos h2]
    show (ixN l.length i).bind _ = _
    rw [e2]; rfl
  rw [e, List.getElem?_eq_getElem (by omega)]
  exact ⟨_, rfl, List.getElem_mem _⟩
theorem plain__law_draw {K : PySem.W.Frag} (ts : List T) (R : T → Sl → Prop) (XR : XRl) (h : sp__law_draw K ts R XR) : m__law_draw K (begin_ N__law_draw ts) (dEnds 1 P__law_draw.length R XR) := by
  obtain ⟨n, span, pen, rfl, ⟨cells, turn, left, rfl, t0, t1, hc⟩, hn, s0, s1, k⟩ := h
  have en : eqD (.lst (cells.map D.int)) (.lst []) = cells.isEmpty := eq_ints_nil cells
  have eb : Eqb (.lst (cells.map D.int)) := eqb_ints cells
  have eb2 : Eqb (.lst []) := eqb_nil
  have hs : CDivW left span := divW s0 (by omega)
  unfold most at hn
  have t2 : turn ≤ 2 ^ 40 := by omega
  have sz : 3 < sizeLine := by decide +kernel
  have kk : ∀ (a : Int) (l : Int) (tn : Int), 0 ≤ tn → tn ≤ (n : Int) + 1 → R (.frz (.int (a % span))) [some (penT cells tn l), none] := fun a l tn h1 h2 =>
    k _ _ (Int.emod_nonneg _ (by omega)) (Int.emod_lt_of_pos _ s0) ⟨_, _, _, rfl, h1, by omega, hc⟩
  have sq : ∀ (a m c : Int), 0 < m → m < 2 ^ 40 → 0 ≤ c → c < 2 ^ 40 → CMulW (a % m) (a % m + c) := fun a m c h1 h2 h3 h4 => by
    have := Int.emod_nonneg a (b := m) (by omega)
    have := Int.emod_lt_of_pos a h1
    exact mulW (by omega) (by omega)
  have sq0 : ∀ (a m : Int), 0 < m → m < 2 ^ 40 → CMulW (a % m) (a % m) := fun a m h1 h2 => by
    have := Int.emod_nonneg a (b := m) (by omega)
    have := Int.emod_lt_of_pos a h1
    exact mulW (by omega) (by omega)
  have lm : ∀ (b a m : Int), 0 ≤ b → b < 2 ^ 40 → 0 < m → m < 2 ^ 40 → CMulW b (a % m) := fun b a m h3 h4 h1 h2 => by
    have := Int.emod_nonneg a (b := m) (by omega)
    have := Int.emod_lt_of_pos a h1
    exact mulW (by omega) (by omega)
  have m1 : CMulW 61 turn := mulW (by omega) (by omega)
  have m2 : CMulW 19 turn := mulW (by omega) (by omega)
  have m3 : CMulW turn 27919 := mulW (by omega) (by omega)
  have m4 : CMulW turn (turn * 27919 + 10601) := mulW (by omega) (by omega)
  have m5 : ∀ c : Int, CMulW (c % 4294967087) 48611 := fun c => mulW (by omega) (by omega)
  have d64 : ∀ c : Int, CDivW c 64 := fun c => divW (by omega) (by omega)
  have ds : ∀ c : Int, CDivW c span := fun c => divW s0 (by omega)
  by_cases hne : cells = []
  · subst hne
    have en : eqD (.lst []) (.lst []) = true := eq_ints_nil []
    simp [m__law_draw, begin_, N__law_draw, penT, dInts, lk_cells, lk_turn, lk_left, pt_turn, pt_left, hs, s0, dEnds, powW, sz, oNe, eb, eb2, en, fin, m1, m2, m3, m4, m5, d64, ds, sq, sq0, lm]
    repeat' split
    all_goals exact kk _ _ _ (by omega) (by omega)
  · have en2 : cells.isEmpty = false := by cases cells with
      | nil => exact absurd rfl hne
      | cons a l => rfl
    have hl : 0 < cells.length := List.length_pos_iff.2 hne
    obtain ⟨x, e1, e2⟩ := atI_ok (l := cells.map D.int) (i := turn % (cells.length : Int)) (Int.emod_nonneg _ (by omega)) (by rw [List.length_map]; exact Int.emod_lt_of_pos _ (by omega))
    obtain ⟨c, hc1, rfl⟩ := List.mem_map.1 e2
    simp [m__law_draw, begin_, N__law_draw, penT, dInts, lk_cells, lk_turn, lk_left, pt_turn, pt_left, hs, s0, dEnds, powW, sz, oNe, eb, eb2, en, en2, e1, hl, fin, m1, m2, m3, m4, m5, d64, ds, sq, sq0, lm]
    repeat' split
    all_goals exact kk _ _ _ (by omega) (by omega)
end K01
set_option Elab.async false
set_option linter.all false
set_option autoImplicit false
set_option maxRecDepth 100000
set_option maxHeartbeats 4000000
namespace K01
open PySem PySem.Spec PySem.Calls L2 VL
open PyProof.Rows hiding St
theorem sz_of {n : Nat} (h : n < 2 ^ 24) : n < sizeLine := Nat.lt_of_lt_of_le h (by decide +kernel)
section
variable {K : PySem.W.Frag} (ts : List T) (R : T → Sl → Prop) (XR : XRl)
theorem mg_pen {a b c : D} : mergeD [((.inr "cells" : Key), a), (.inr "turn", b), (.inr "left", c)] = [((.inr "cells" : Key), a), (.inr "turn", b), (.inr "left", c)] := rfl
theorem mg_sc {a b : D} : mergeD [((.inr "rows" : Key), a), (.inr "marks", b)] = [((.inr "rows" : Key), a), (.inr "marks", b)] := rfl
theorem pt_sc {a b c : D} : putD [((.inr "rows" : Key), a), (.inr "marks", b)] (.inr "lots") c = [((.inr "rows" : Key), a), (.inr "marks", b), (.inr "lots", c)] := rfl
theorem lk_rows {a b c : D} : look [((.inr "rows" : Key), a), (.inr "marks", b), (.inr "lots", c)] (.inr "rows") = some a := rfl
theorem lk_marks {a b c : D} : look [((.inr "rows" : Key), a), (.inr "marks", b), (.inr "lots", c)] (.inr "marks") = some b := rfl
theorem lk_lots {a b c : D} : look [((.inr "rows" : Key), a), (.inr "marks", b), (.inr "lots", c)] (.inr "lots") = some c := rfl
theorem plain__law_begun_pen (h : sp__law_begun_pen K ts R XR) : m__law_begun_pen K (begin_ N__law_begun_pen ts) (dEnds 0 P__law_begun_pen.length R XR) := by
  obtain ⟨ns, rfl, k⟩ := h
  simp [m__law_begun_pen, begin_, N__law_begun_pen, dEnds, fin, mg_pen, cut_to]
  exact k _ ⟨ns.take 63, 0, 0, by simp [penT, dInts], by omega, by omega, by simp; omega⟩
theorem plain__law_pick (h : sp__law_pick K ts R XR) : m__law_pick K (begin_ N__law_pick ts) (dEnds 1 P__law_pick.length R XR) := by
  obtain ⟨n, ds, pen, rfl, hp, hn, hd, hl, k⟩ := h
  simp [m__law_pick, begin_, N__law_pick, dEnds, fin]
  refine ⟨n, _, pen, rfl, hp, hn, by have := List.length_pos_iff.2 hd; omega, by omega, fun r pen' r0 r1 hp' => ?_⟩
  simp
  obtain ⟨x, e, hx⟩ := atI_mem (l := ds) (i := r) r0 r1
  exact ⟨x, e, k x _ hx hp'⟩
theorem er_perm {α : Type} : ∀ (l : List α) (i : Nat) (y : α), l[i]? = some y → (y :: l.eraseIdx i).Perm l
  | [], i, y, h => by simp at h
  | a :: l, 0, y, h => by simp at h; subst h; exact List.Perm.refl _
  | a :: l, i + 1, y, h => by
    have := er_perm l i y (by simpa using h)
    exact (List.Perm.swap _ _ _).trans (this.cons a)
theorem plain__law_shuffled (h : sp__law_shuffled K ts R XR) : m__law_shuffled K (begin_ N__law_shuffled ts) (dEnds 1 P__law_shuffled.length R XR) := by
  obtain ⟨n, ds, pen, rfl, hp, hn, hl, hq, k⟩ := h
  simp [m__law_shuffled, begin_, N__law_shuffled, dEnds, fin]
  refine ⟨fun m Γ => ∃ rest found pen', Γ = [some pen', some (.frz (.lst ds)), some (.bl rest), some (.bl found)] ∧ penOk (n + found.length) pen' ∧ (found ++ rest).Perm ds ∧ rest.length = m, ⟨_, ds, [], pen, rfl, hp, List.Perm.refl _, rfl⟩, ?_⟩
  rintro m Γ ⟨rest, found, pen', rfl, hp', hpm, hm⟩
  have hlen : found.length + rest.length = ds.length := by rw [← List.length_append]; exact hpm.length_eq
  have hb : Eqb (.lst rest) := hq rest fun e he => hpm.subset (List.mem_append_right _ he)
  simp [oNe, hb, eqD_nil hb]
  split
  · rename_i hr
    subst hr
    rw [List.append_nil] at hpm
    refine k found pen' hpm ?_
    rw [← hpm.length_eq]
    exact hp'
  · rename_i hr
    have hr0 := List.length_pos_iff.2 hr
    refine ⟨n + found.length, _, pen', rfl, hp', by omega, by omega, by omega, fun r pen2 r0 r1 hp2 => ?_⟩
    simp
    refine ⟨by omega, by omega, _, sqi_ok r0 r1, _, List.getElem?_eq_getElem (by omega), sz_of (by omega), ?_⟩
    refine ⟨rest.length - 1, by omega, _, _, _, ⟨rfl, rfl, rfl⟩, ?_, ?_, ?_⟩
    · rw [List.length_append]; exact hp2
    · refine List.Perm.trans ?_ hpm
      rw [List.append_assoc]
      refine List.Perm.append_left _ ?_
      exact er_perm rest r.toNat _ (List.getElem?_eq_getElem (by omega))
    · rw [List.length_eraseIdx, if_pos (by omega)]
theorem plain__law_barred (h : sp__law_barred K ts R XR) : m__law_barred K (begin_ N__law_barred ts) (dEnds 0 P__law_barred.length R XR) := by
  obtain ⟨rfl, k⟩ := h
  simp [m__law_barred, begin_, N__law_barred, dEnds, fin]
  exact ⟨Nat.le_of_lt (sz_of (by omega)), Nat.le_of_lt (sz_of (by omega)), k⟩
theorem strs_of_mem : ∀ {es : List D} {ss : List Str}, (∀ e ∈ es, e ∈ ss.map D.str) → ∃ zs : List Str, es = zs.map D.str
  | [], ss, h => ⟨[], rfl⟩
  | e :: es, ss, h => by
    obtain ⟨zs, e2⟩ := strs_of_mem (es := es) (ss := ss) fun x hx => h x (List.mem_cons_of_mem _ hx)
    obtain ⟨z, _, e3⟩ := List.mem_map.1 (h e List.mem_cons_self)
    exact ⟨z :: zs, by rw [e2, ← e3]; rfl⟩
theorem perm_strs {es ss : List Str} (h : (es.map D.str).Perm (ss.map D.str)) : es.Perm ss := by
  let f : D → Str := fun d => match d with
    | .str s => s
    | _ => ""
  have h2 := h.map f
  rw [List.map_map, List.map_map] at h2
  have e : f ∘ D.str = id := rfl
  rw [e, List.map_id, List.map_id] at h2
  exact h2
theorem plain__law_new_names (h : sp__law_new_names K ts R XR) : m__law_new_names K (begin_ N__law_new_names ts) (dEnds 1 P__law_new_names.length R XR) := by
  obtain ⟨n, many, pen, rfl, hp, hn, h0, k⟩ := h
  simp only [m__law_new_names, begin_, N__law_new_names, dEnds, fin, x_seq, x_set, x_lst, x_ac, x_a0, x_c, List.map, x_toF, x_ret]
  refine ⟨by simp, ?_⟩
  have e : ∀ (Γ : Sl) (X : List D), X = names11.map D.str → (∀ k : List D → Prop, k (names11.map D.str) → k X) := fun _ X e k h => by rw [e]; exact h
  show _
  generalize hX : ([D.str "p", D.str "q", D.str "x", D.str "y", D.str "zz", D.str "date", D.str "rows", D.str "abcdefghijkl", D.str "marks", D.str "out", D.str "nextone"] : List D) = X
  have hX : X = names11.map D.str := hX.symm
  clear e
  simp
  have hX11 : X.length = 11 := by rw [hX]; rfl
  refine ⟨n, _, pen, rfl, hp, by omega, by omega, fun es he => ?_, fun es pen' he hp' => ?_⟩
  · obtain ⟨zs, rfl⟩ := strs_of_mem (by rw [← hX]; exact he)
    exact eqb_strs zs
  · obtain ⟨zs, rfl⟩ := strs_of_mem (es := es) (ss := names11) (by rw [← hX]; exact fun e h => he.subset h)
    simp [cut_to h0]
    rw [hX] at he
    rw [hX11] at hp'
    have := k zs pen' (perm_strs he) hp'
    simpa using this
theorem plain__law_new_scene (h : sp__law_new_scene K ts R XR) : m__law_new_scene K (begin_ N__law_new_scene ts) (dEnds 1 P__law_new_scene.length R XR) := by
  obtain ⟨n, pen, rfl, hp, hn, k⟩ := h
  simp [m__law_new_scene, begin_, N__law_new_scene, dEnds, fin]
  refine ⟨n, 5, pen, rfl, hp, by omega, by omega, fun es pen1 he hp1 => ?_⟩
  simp
  refine ⟨n + 11, 3, pen1, rfl, hp1, by omega, by omega, by omega, fun r1 pen2 a0 a1 hp2 => ?_⟩
  simp
  refine ⟨n + 12, 3, pen2, rfl, hp2, by omega, by omega, by omega, fun r2 pen3 b0 b1 hp3 => ?_⟩
  simp
  rw [cut_to (by omega), cut_mid (by omega) (by omega)]
  refine ⟨n + 13, 3, pen3, rfl, hp3, by omega, by omega, by omega, fun r3 pen4 c0 c1 hp4 => ?_⟩
  simp [mg_sc, pt_sc]
  refine ⟨sz_of (by omega), ?_⟩
  have hl : es.length = 11 := he.length_eq
  have := k ((es.take 5).take (1 + r1).toNat) (((es.take 5).drop 3).take r2.toNat) (decide (r3 = 0)) pen4 ?_ hp4
  · simpa [scD, dStrs, List.map_take, List.map_drop] using this
  · have hs : List.Sublist ((es.take 5).take (1 + r1).toNat ++ ((es.take 5).drop 3).take r2.toNat) es := by
      have e1 : List.Sublist ((es.take 5).take (1 + r1).toNat ++ ((es.take 5).drop 3).take r2.toNat) (es.take 5) := by
        have e2 : es.take 5 = (es.take 5).take 3 ++ (es.take 5).drop 3 := (List.take_append_drop _ _).symm
        conv => rhs; rw [e2]
        refine List.Sublist.append ?_ (List.take_sublist _ _)
        rw [show (es.take 5).take (1 + r1).toNat = ((es.take 5).take 3).take (1 + r1).toNat from by rw [List.take_take (i := (1 + r1).toNat) (j := 3), Nat.min_eq_left (by omega)]]
        exact List.take_sublist _ _
      exact e1.trans (List.take_sublist _ _)
    refine ⟨?_, ?_, ?_, ?_, ?_⟩
    · intro e
      have := congrArg List.length e
      rw [List.length_take, List.length_take, hl, List.length_nil] at this
      omega
    · simp; omega
    · simp; omega
    · exact hs.nodup (he.nodup_iff.2 (by decide +kernel))
    · intro z hz
      exact he.subset (hs.subset hz)
theorem lc_map {i : Nat} {te : ME} {X : List D → Sl → Prop} {ss : List Str} {f : Str → Str} {Γ : Sl} (hi : i < Γ.length) (hn : Γ[i]? = some none) (hl : ss.length < 2 ^ 20)
    (h : ∀ s ∈ ss, ∀ R : T → Sl → Prop, R (.frz (.str (f s))) (Γ.set i (some (.frz (.str s)))) → te (Γ.set i (some (.frz (.str s)))) R noX)
    (k : X ((ss.map f).map D.str) Γ) : lcL (tN i) mYes te [i] X (ss.map D.str) [] Γ := by
  have hΓ : ∀ x, (Γ.set i x).set i none = Γ := fun x => by
    rw [List.set_set]
    refine List.ext_getElem? fun j => ?_
    by_cases e : i = j
    · subst e; rw [List.getElem?_set_self hi, hn]
    · rw [List.getElem?_set_ne e]
  refine lcL_inv (fun ds acc Γ' => Γ' = Γ ∧ ∃ a b, ds = b.map D.str ∧ acc = (a.map f).map D.str ∧ a ++ b = ss) ?_ ?_ _ _ _ ⟨rfl, [], ss, rfl, rfl, rfl⟩
  · rintro d ds acc _ N ⟨rfl, a, b, e1, rfl, rfl⟩ hN
    cases b with
    | nil => cases e1
    | cons s b =>
      cases e1
      simp [hi]
      refine h s (by simp) _ ?_
      simp [hΓ]
      refine ⟨sz_of (by simp at hl; omega), ?_⟩
      have := hN ((((a ++ [s]).map f).map D.str)) _ ⟨hΓ none, a ++ [s], b, rfl, rfl, by simp⟩
      simpa [hΓ] using this
  · rintro acc _ ⟨rfl, a, b, e1, rfl, rfl⟩
    cases b with
    | nil => simpa using k
    | cons s b => cases e1
theorem list_lt {ss : List Str} {c : Nat} (h : ∀ z ∈ ss, z.length ≤ c) : (ss.map (·.length)).sum ≤ c * ss.length := by
  induction ss with
  | nil => simp
  | cons a l ih =>
    have h1 := h a List.mem_cons_self
    have h2 := ih fun z hz => h z (List.mem_cons_of_mem _ hz)
    simp only [List.map_cons, List.sum_cons, List.length_cons, Nat.mul_succ]
    omega
theorem lines_len {rs ms : List Str} (ok : ScOk rs ms) (b : Bool) : ((linesT rs ms b).map (·.length)).sum + (linesT rs ms b).length ≤ 200 := by
  have h3 := ok.r3
  have h2 := ok.m2
  have key : ∀ z ∈ names11, z.length ≤ 12 := by decide +kernel
  have e4 : ("row " : Str).length = 4 := by decide +kernel
  have e5 : ("mark " : Str).length = 5 := by decide +kernel
  have e6 : ("lots" : Str).length = 4 := by decide +kernel
  have hl : (linesT rs ms b).length ≤ 6 := by
    unfold linesT
    simp
    split <;> simp <;> omega
  have := list_lt (ss := linesT rs ms b) (c := 17) (fun z hz => by
    unfold linesT at hz
    rw [List.mem_append, List.mem_append] at hz
    rcases hz with (hz | hz) | hz
    · obtain ⟨x, hx, rfl⟩ := List.mem_map.1 hz
      have := key x (ok.good x (List.mem_append_left _ hx))
      rw [Str.length_append]
      omega
    · obtain ⟨x, hx, rfl⟩ := List.mem_map.1 hz
      have := key x (ok.good x (List.mem_append_right _ hx))
      rw [Str.length_append]
      omega
    · split at hz
      · rw [List.mem_singleton.1 hz]; omega
      · cases hz)
  omega
theorem plain__law_scene_text (h : sp__law_scene_text K ts R XR) : m__law_scene_text K (begin_ N__law_scene_text ts) (dEnds 0 P__law_scene_text.length R XR) := by
  obtain ⟨rs, ms, b, rfl, ok, k⟩ := h
  simp [m__law_scene_text, begin_, N__law_scene_text, dEnds, fin, scD, lk_rows, lk_marks, lk_lots]
  have h3 := ok.r3
  have h2 := ok.m2
  have hlen : ∀ z ∈ rs ++ ms, z.length ≤ 12 := fun z hz => by
    have := ok.good z hz
    have key : ∀ z ∈ names11, z.length ≤ 12 := by decide +kernel
    exact key z this
  refine lc_map (by simp) rfl (by omega) (f := fun x => ("row " : Str) ++ x) (fun s hs R h => ?_) ?_
  · have := hlen s (List.mem_append_left _ hs)
    have e4 : ("row " : Str).length = 4 := by decide +kernel
    simp
    exact ⟨Nat.le_of_lt (sz_of (by omega)), h⟩
  simp [lk_rows, lk_marks, lk_lots]
  refine lc_map (by simp) rfl (by omega) (f := fun x => ("mark " : Str) ++ x) (fun s hs R h => ?_) ?_
  · have := hlen s (List.mem_append_right _ hs)
    have e4 : ("mark " : Str).length = 5 := by decide +kernel
    simp
    exact ⟨Nat.le_of_lt (sz_of (by omega)), h⟩
  simp [lk_rows, lk_marks, lk_lots]
  have e : (rs.map (D.str ∘ fun x => ("row " : Str) ++ x) ++ (ms.map (D.str ∘ fun x => ("mark " : Str) ++ x) ++ List.replicate (if b = true then (1 : Int) else 0).toNat (D.str ("lots" : Str)))) = (linesT rs ms b).map D.str := by
    cases b <;> simp [linesT]
  have hj := lines_len ok b
  rw [e, x_joinL]
  refine ⟨Nat.le_of_lt (sz_of (by omega)), by split <;> omega, by split <;> omega, ?_, ?_, ?_, k⟩
  · have := sz_of (n := 1) (by omega)
    split <;> omega
  · refine Nat.le_of_lt (sz_of ?_)
    split <;> simp <;> omega
  · have e1 : (("\n" : Str).length) = 1 := by decide +kernel
    rw [e1]
    omega
theorem all_dec {w : Str} : ((w.cps.toList.filter fun c => !decide (c ∈ letters.cps.toList)).isEmpty) = w.cps.toList.all fun c => decide (c ∈ letters.cps.toList) := by
  generalize w.cps.toList = l
  generalize letters.cps.toList = L
  induction l with
  | nil => rfl
  | cons c l ih =>
    by_cases h : c ∈ L
    · rw [List.filter_cons_of_neg (by simp [h]), ih, List.all_cons, decide_eq_true h, Bool.true_and]
    · rw [List.filter_cons_of_pos (by simp [h]), List.all_cons, decide_eq_false h, Bool.false_and]; rfl
theorem isNm_at {w : Str} (h1 : 1 ≤ w.length) (h2 : w.length ≤ 12) : isNm w = ((w.cps.toList.all fun c => decide (c ∈ letters.cps.toList)) && !decide (w ∈ barredL)) := by
  unfold isNm
  rw [decide_eq_true h1, decide_eq_true h2]; rfl
theorem isNm_no {w : Str} (h : ¬(1 ≤ w.length ∧ w.length ≤ 12)) : isNm w = false := by
  unfold isNm
  by_cases h1 : 1 ≤ w.length
  · rw [decide_eq_false (p := w.length ≤ 12) (fun h2 => h ⟨h1, h2⟩)]; simp
  · rw [decide_eq_false h1]; simp
theorem in_let {c : Nat} : (c ∈ letters.cps.toList) ↔ c ∈ ("abcdefghijklmnopqrstuvwxyz" : Str).cps := by
  show c ∈ ("abcdefghijklmnopqrstuvwxyz" : Str).cps.toList ↔ _
  simp
theorem plain__law_is_name (h : sp__law_is_name K ts R XR) : m__law_is_name K (begin_ N__law_is_name ts) (dEnds 0 P__law_is_name.length R XR) := by
  obtain ⟨w, rfl, hw, k⟩ := h
  unfold big at hw
  have hlen : w.cps.toList.length = w.length := by simp [Str.length]
  simp [m__law_is_name, begin_, N__law_is_name, dEnds, fin]
  refine lcL_inv (fun ds acc Γ' => Γ' = [some (.frz (.str w)), none, none] ∧ ∃ a b : List Nat, ds = b.map chD ∧ acc = (a.filter fun c => !decide (c ∈ letters.cps.toList)).map chD ∧ a ++ b = w.cps.toList) ?_ ?_ _ _ _ ⟨rfl, [], w.cps.toList, rfl, rfl, rfl⟩
  · rintro d ds acc _ N ⟨rfl, a, b, e1, rfl, e2⟩ hN
    cases b with
    | nil => cases e1
    | cons c b =>
      cases e1
      have hl : a.length + 1 ≤ w.length := by rw [← hlen, ← e2]; simp
      have hf : (a.filter fun c => !decide (c ∈ letters.cps.toList)).length ≤ a.length := List.length_filter_le _ _
      have h2 : N (((a ++ [c]).filter fun c => !decide (c ∈ letters.cps.toList)).map chD) [some (.frz (.str w)), none, none] := hN _ [some (.frz (.str w)), none, none] ⟨rfl, a ++ [c], b, rfl, rfl, by rw [← e2]; simp⟩
      rw [List.filter_append] at h2
      generalize (a.filter fun c => !decide (c ∈ letters.cps.toList)) = fa at h2 hf
      simp
      by_cases hc : c ∈ letters.cps.toList
      · rw [if_pos (in_let.1 hc)]
        rw [List.filter_cons_of_neg (by simp only [hc]; decide)] at h2
        simpa using h2
      · rw [if_neg (fun h => hc (in_let.2 h))]
        rw [List.filter_cons_of_pos (by simp only [hc]; decide)] at h2
        exact ⟨sz_of (by omega), by simpa using h2⟩
  · rintro acc _ ⟨rfl, a, b, e1, rfl, e2⟩
    cases b with
    | cons s b => cases e1
    | nil =>
      rw [List.append_nil] at e2
      subst e2
      obtain ⟨zs, hz, hz2⟩ : ∃ zs : List Str, (w.cps.toList.filter fun c => !decide (c ∈ letters.cps.toList)).map chD = zs.map D.str ∧ zs.isEmpty = w.cps.toList.all fun c => decide (c ∈ letters.cps.toList) := by
        refine ⟨(w.cps.toList.filter fun c => !decide (c ∈ letters.cps.toList)).map fun c => (⟨#[c]⟩ : Str), ?_, ?_⟩
        · rw [List.map_map]; rfl
        · rw [List.isEmpty_map, all_dec]
      rw [hz]
      simp only [x_slV0, x_slVs, x_vwF, x_vwL, List.set, x_neS, x_eqN, x_tB, x_toF, x_toL, x_lenS, x_ib, List.length]
      refine ⟨by omega, Nat.le_of_lt (sz_of (by omega)), ?_⟩
      by_cases h1 : 1 ≤ w.length
      · by_cases h2 : w.length ≤ 12
        · rw [isNm_at h1 h2, ← hz2] at k
          rw [if_pos (decide_eq_true (by omega)), if_pos (decide_eq_true (by omega))]
          refine ⟨trivial, ?_⟩
          split
          · rename_i he
            refine ⟨trivial, rfl, ?_⟩
            simp
            rw [he] at k
            simpa using k
          · rename_i he
            simp only [Bool.not_eq_true] at he
            rw [he] at k
            simpa using k
        · rw [isNm_no (fun h => h2 h.2)] at k
          rw [if_pos (decide_eq_true (by omega)), if_neg (by simp; omega)]
          exact k
      · rw [isNm_no (fun h => h1 h.1)] at k
        rw [if_neg (by simp; omega)]
        exact k
theorem barred_mem {w : Str} : (w ∈ z_BARRED) ↔ w ∈ barredL := by
  have h : z_BARRED.isPerm barredL = true := by decide +kernel
  exact (List.isPerm_iff.1 h).mem_iff
theorem plain_is_name (h : sp_is_name K ts R XR) : m_is_name K (begin_ N_is_name ts) (dEnds 0 P_is_name.length R XR) := by
  obtain ⟨w, rfl, hw, k⟩ := h
  unfold big at hw
  have hlen : w.cps.toList.length = w.length := by simp [Str.length]
  simp [m_is_name, begin_, N_is_name, dEnds, fin, barred_mem]
  refine ⟨Nat.le_of_lt (sz_of (by omega)), ?_⟩
  by_cases h1 : 1 ≤ w.length
  · by_cases h2 : w.length ≤ 12
    · rw [isNm_at h1 h2] at k
      rw [if_pos (by omega), if_pos (by omega)]
      split
      · rename_i hb; simpa [hb] using k
      · rename_i hb
        refine lcL_inv (fun ds acc Γ' => Γ' = [some (.frz (.str w)), none] ∧ ∃ a b : List Nat, ds = b.map chD ∧ acc = (a.map fun c => decide (c ∈ letters.cps.toList)).map D.bl ∧ a ++ b = w.cps.toList) ?_ ?_ _ _ _ ⟨rfl, [], w.cps.toList, rfl, rfl, rfl⟩
        · rintro d ds acc _ N ⟨rfl, a, b, e1, rfl, e2⟩ hN
          cases b with
          | nil => cases e1
          | cons c b =>
            cases e1
            have hl : a.length + 1 ≤ w.length := by rw [← hlen, ← e2]; simp
            have h2 : N (((a ++ [c]).map fun c => decide (c ∈ letters.cps.toList)).map D.bl) [some (.frz (.str w)), none] := hN _ [some (.frz (.str w)), none] ⟨rfl, a ++ [c], b, rfl, rfl, by rw [← e2]; simp⟩
            have e4 : decide (c ∈ ("abcdefghijklmnopqrstuvwxyz" : Str).cps) = decide (c ∈ letters.cps.toList) := by
              by_cases hc : c ∈ letters.cps.toList
              · rw [decide_eq_true hc, decide_eq_true (in_let.1 hc)]
              · rw [decide_eq_false hc, decide_eq_false (fun h => hc (in_let.2 h))]
            simp only [x_tN, List.length, List.set, x_yes, if_true, x_o2ne, x_slVs, x_slV0, x_vwF, x_frz, x_c, x_toF, x_inS, Array.mem_toList_iff]
            refine ⟨by omega, trivial, by simp; exact sz_of (by omega), ?_⟩
            rw [e4]
            simpa using h2
        · rintro acc _ ⟨rfl, a, b, e1, rfl, e2⟩
          cases b with
          | cons s b => cases e1
          | nil =>
            rw [List.append_nil] at e2
            subst e2
            simp only [x_all]
            have e5 : (w.cps.toList.map fun c => decide (c ∈ letters.cps.toList)).all id = w.cps.toList.all fun c => decide (c ∈ letters.cps.toList) := by rw [List.all_map]; rfl
            rw [e5]
            simpa [hb] using k
    · rw [isNm_no (fun h => h2 h.2)] at k
      rw [if_pos (by omega), if_neg (by omega)]
      exact k
  · rw [isNm_no (fun h => h1 h.1)] at k
    rw [if_neg (by omega)]
    exact k
theorem nl1 : ("\n" : Str).length = 1 := by decide +kernel
theorem sp1l : (" " : Str).length = 1 := by decide +kernel
theorem plain_lines_of (h : sp_lines_of K ts R XR) : m_lines_of K (begin_ N_lines_of ts) (dEnds 0 P_lines_of.length R XR) := by
  obtain ⟨t, rfl, hw, k⟩ := h
  unfold big at hw
  simp [m_lines_of, begin_, N_lines_of, dEnds, fin, nl1]
  unfold linesF at k
  split
  · rename_i e; rw [if_pos e] at k; exact k
  · rename_i e; rw [if_neg e] at k; exact ⟨Nat.le_of_lt (sz_of (by omega)), k⟩
theorem plain_words_of (h : sp_words_of K ts R XR) : m_words_of K (begin_ N_words_of ts) (dEnds 0 P_words_of.length R XR) := by
  obtain ⟨t, rfl, hw, k⟩ := h
  unfold big at hw
  simp [m_words_of, begin_, N_words_of, dEnds, fin, sp1l]
  refine ⟨Nat.le_of_lt (sz_of (by omega)), ?_⟩
  unfold wordsF at k
  split
  · rename_i e
    have e2 : ("" : Str) ∈ Txt.split t sp1 := e
    exact k _ fun k => by simp [e2]
  · rename_i e
    have e2 : ("" : Str) ∉ Txt.split t sp1 := e
    exact k _ fun k => by simp [e2]; rfl
end
end K01
set_option Elab.async false
set_option linter.all false
set_option autoImplicit false
set_option maxRecDepth 100000
set_option maxHeartbeats 4000000
namespace K01
open PySem PySem.Spec PySem.Calls L2 VL
open PyProof.Rows hiding St
section
variable {K : PySem.W.Frag} (ts : List T) (R : T → Sl → Prop) (XR : XRl)
theorem lines_le {t : Str} : (linesF t).length ≤ t.length + 2 ∧ ∀ l ∈ linesF t, l.length ≤ t.length := by
  unfold linesF
  split
  · simp
  · exact ⟨split_le _ _, fun l hl => part_short hl⟩
/-- which way a line goes -/
theorem lineF_lots {s : Rd0} {ws : List Str} (h : ws = [("lots" : Str)] ∧ s.rows ≠ [] ∧ s.lots = false) : lineF s ws = some { s with lots := true } := if_pos h
theorem lineF_len {s : Rd0} {ws : List Str} (h : ¬(ws = [("lots" : Str)] ∧ s.rows ≠ [] ∧ s.lots = false)) (h2 : ws.length ≠ 2) : lineF s ws = none := by
  unfold lineF
  rw [if_neg h]
  match ws, h2 with
  | [], _ => rfl
  | [a], _ => rfl
  | a :: b :: c :: r, _ => rfl
theorem lineF_two {s : Rd0} {a b : Str} : lineF s [a, b] = if s.lots = true ∨ isNm b = false ∨ (b ∈ s.rows ∨ b ∈ s.marks) then none
      else if a = "row" ∧ s.marks = [] ∧ s.rows.length < 3 then some { s with rows := s.rows ++ [b] }
      else if a = "mark" ∧ s.rows ≠ [] ∧ s.marks.length < 2 then some { s with marks := s.marks ++ [b] }
      else none := by
  unfold lineF
  rw [if_neg (by simp)]
  simp only [List.mem_append]
theorem lineF_n1 {s : Rd0} {a b : Str} (h : s.lots = true ∨ isNm b = false ∨ (b ∈ s.rows ∨ b ∈ s.marks)) : lineF s [a, b] = none := by rw [lineF_two, if_pos h]
theorem lineF_n2 {s : Rd0} {a b : Str} (h : ¬(a = "row" ∧ s.marks = [] ∧ s.rows.length < 3)) (h2 : ¬(a = "mark" ∧ s.rows ≠ [] ∧ s.marks.length < 2)) : lineF s [a, b] = none := by
  rw [lineF_two, if_neg h, if_neg h2]
  split <;> rfl
theorem lineF_go {s : Rd0} {a b : Str} (h1 : ¬s.lots = true) (h2 : isNm b = true) (h3 : ¬(b ∈ s.rows ∨ b ∈ s.marks)) : ¬(s.lots = true ∨ isNm b = false ∨ (b ∈ s.rows ∨ b ∈ s.marks)) := by
  rintro (h | h | h)
  · exact h1 h
  · rw [h2] at h; cases h
  · exact h3 h
theorem lineF_row {s : Rd0} {a b : Str} (h1 : ¬s.lots = true) (h2 : isNm b = true) (h3 : ¬(b ∈ s.rows ∨ b ∈ s.marks)) (h4 : a = "row") (h5 : s.marks = []) (h6 : s.rows.length < 3) : lineF s [a, b] = some { s with rows := s.rows ++ [b] } := by
  rw [lineF_two, if_neg (lineF_go (a := a) h1 h2 h3), if_pos ⟨h4, h5, h6⟩]
theorem lineF_mark {s : Rd0} {a b : Str} (h1 : ¬s.lots = true) (h2 : isNm b = true) (h3 : ¬(b ∈ s.rows ∨ b ∈ s.marks)) (h : ¬(a = "row" ∧ s.marks = [] ∧ s.rows.length < 3)) (h4 : a = "mark") (h5 : ¬s.rows = []) (h6 : s.marks.length < 2) : lineF s [a, b] = some { s with marks := s.marks ++ [b] } := by
  rw [lineF_two, if_neg (lineF_go (a := a) h1 h2 h3), if_neg h, if_pos ⟨h4, h5, h6⟩]
def readI (t : Str) (k : Nat) (s : Rd0) (ls : List Str) : Prop := readL k s ls = readF t ∧ (∀ l ∈ ls, l.length ≤ t.length) ∧ k + ls.length ≤ t.length + 2 ∧ s.rows.length + s.marks.length ≤ k
theorem readI_some {t : Str} {k : Nat} {s s' : Rd0} {l : Str} {ls : List Str} (h : readI t k s (l :: ls)) (e : lineF s (Txt.split l sp1) = some s') (hb : s'.rows.length + s'.marks.length ≤ s.rows.length + s.marks.length + 1) : readI t (k + 1) s' ls := by
  obtain ⟨h1, h2, h3, h4⟩ := h
  refine ⟨?_, fun z hz => h2 z (List.mem_cons_of_mem _ hz), ?_, by omega⟩
  · rw [← h1]; simp only [readL, e]
  · simp only [List.length_cons] at h3; omega
theorem readI_none {t : Str} {k : Nat} {s : Rd0} {l : Str} {ls : List Str} (h : readI t k s (l :: ls)) (e : lineF s (Txt.split l sp1) = none) : readF t = (k + 1, s) := by
  rw [← h.1]; simp only [readL, e]
theorem ite_of {c : Prop} [Decidable c] {A B : Prop} (h1 : c → A) (h2 : ¬c → B) : if c then A else B := by
  split
  · exact h1 (by assumption)
  · exact h2 (by assumption)
theorem at0 {α : Type} {x y : α} : atI [x, y] 0 = some x := rfl
theorem at1 {α : Type} {x y : α} : atI [x, y] 1 = some y := rfl
theorem inA {R : T → Prop} {s : Str} {a b : List Str} : oIn (.str s) (.lst (a.map D.str ++ b.map D.str)) R = R (.frz (.bl (decide (s ∈ a ++ b)))) := by
  rw [← List.map_append]; exact x_inL
theorem read_loop {t : Str} (hw : t.length ≤ 1000000) {x4 : Option T} {M : VEnds} (hn : ∀ (s : Rd0) (Γ : Sl) x5 x6 x7, readI t (linesF t).length s [] → M.nx [some (.frz (.str t)), some (.bl (s.rows.map D.str)), some (.bl (s.marks.map D.str)), some (.frz (.bl s.lots)), x4, x5, x6, x7])
    (hr : ∀ Γ, M.rt (.frz (.tup [.int (readF t).1, dStrs (readF t).2.rows, dStrs (readF t).2.marks, .bl (readF t).2.lots])) Γ) :
    forL (VL.tTup 2 (VL.tCons (tN 5) (VL.tCons (tN 6) VL.tNil))) (b__law_read_1 K) M (enumD 0 ((linesF t).map D.str)) [some (.frz (.str t)), some (.bl []), some (.bl []), some (.frz (.bl false)), x4, none, none, none] := by
  refine forL_inv (fun ds Γ => ∃ (k : Nat) (s : Rd0) (ls : List Str) (x5 x6 x7 : Option T), ds = enumD k (ls.map D.str) ∧ Γ = [some (.frz (.str t)), some (.bl (s.rows.map D.str)), some (.bl (s.marks.map D.str)), some (.frz (.bl s.lots)), x4, x5, x6, x7] ∧ k + ls.length = (linesF t).length ∧ readI t k s ls) ?_ ?_ _ _ ⟨0, ⟨[], [], false⟩, linesF t, none, none, none, rfl, rfl, by omega, rfl, lines_le.2, by have := (lines_le (t := t)).1; omega, by simp⟩
  · rintro d ds _ N ⟨k, s, ls, x5, x6, x7, e1, rfl, hk, hI⟩ hN
    cases ls with
    | nil => cases e1
    | cons l ls =>
      cases e1
      have hl := hI.2.1 l List.mem_cons_self
      have h4 := hI.2.2.2
      have h3 := hI.2.2.1
      simp only [List.length_cons] at h3 hk
      have some_ : ∀ s' x5 x6 x7, lineF s (Txt.split l sp1) = some s' → s'.rows.length + s'.marks.length ≤ s.rows.length + s.marks.length + 1 → N [some (.frz (.str t)), some (.bl (s'.rows.map D.str)), some (.bl (s'.marks.map D.str)), some (.frz (.bl s'.lots)), x4, x5, x6, x7] := fun s' x5 x6 x7 e hb =>
        hN _ ⟨k + 1, s', ls, x5, x6, x7, rfl, rfl, by omega, readI_some hI e hb⟩
      have none_ : lineF s (Txt.split l sp1) = none → ∀ Γ, M.rt (.frz (.tup [.int (k + 1), dStrs s.rows, dStrs s.marks, .bl s.lots])) Γ := fun e Γ => by
        have := hr Γ
        rw [readI_none hI e] at this
        exact this
      have hsp : 1 ≤ (Txt.split l sp1).length := split_pos _ _
      have e0 : Txt.split l (" " : Str) = Txt.split l sp1 := rfl
      have hws : ∀ z ∈ Txt.split l sp1, z.length ≤ l.length := fun z hz => part_short hz
      have sz1 : l.length + 2 ≤ sizeLine := Nat.le_of_lt (sz_of (by omega))
      have sz2 : s.rows.length + s.marks.length ≤ sizeLine := Nat.le_of_lt (sz_of (by omega))
      have sz3 : s.rows.length < sizeLine := sz_of (by omega)
      have sz4 : s.marks.length < sizeLine := sz_of (by omega)
      by_cases hA : Txt.split l sp1 = [("lots" : Str)] ∧ s.rows ≠ [] ∧ s.lots = false
      · have := some_ { s with lots := true } (some (.frz (.int k))) (some (.frz (.str l))) (some (.bl [.str "lots"])) (lineF_lots hA) (by simp)
        simp [b__law_read_1, sp1l, e0, hA.1, hA.2.1, hA.2.2, sz1]
        simpa using this
      by_cases hB : (Txt.split l sp1).length = 2
      · generalize Txt.split l sp1 = ws at *
        match ws, hB with
        | [a, b], _ =>
        have hb : b.length ≤ big := by unfold big; have := hws b (by simp); omega
        have nlo : ¬([a, b] = [("lots" : Str)]) := by simp
        simp [b__law_read_1, sp1l, e0, sz1, sz2, sz3, sz4, at0, at1, inA, sp__law_is_name, hb]
        have i1 : ((s.rows.length : Int) < 3) ↔ s.rows.length < 3 := by omega
        have i2 : ((s.marks.length : Int) < 2) ↔ s.marks.length < 2 := by omega
        have hrm : ("row" : Str) ≠ "mark" := by decide
        have hrm2 : ("mark" : Str) ≠ "row" := by decide
        have r1 := some_ { s with rows := s.rows ++ [b] } (some (.frz (.int k))) (some (.frz (.str l))) (some (.bl [.str a, .str b]))
        have r2 := some_ { s with marks := s.marks ++ [b] } (some (.frz (.int k))) (some (.frz (.str l))) (some (.bl [.str a, .str b]))
        simp only [List.map_append, List.map_cons, List.map_nil, List.length_append, List.length_cons, List.length_nil] at r1 r2
        simp only [i1, i2]
        clear hN some_ hI hA i1 i2
        repeat' (refine ite_of (fun _ => ?_) (fun _ => ?_))
        all_goals first
          | exact r1 (lineF_row (by assumption) (by assumption) (by assumption) (by assumption) (by assumption) (by assumption)) (by omega)
          | exact r2 (lineF_mark (by assumption) (by assumption) (by assumption) (by first | exact fun h => absurd h.1 (by assumption) | exact fun h => absurd h.2.1 (by assumption) | exact fun h => absurd h.2.2 (by assumption) | exact fun h => h.2.1 (by assumption)) (by assumption) (by assumption) (by assumption)) (by omega)
          | exact none_ (lineF_n2 (by first | exact fun h => absurd h.1 (by assumption) | exact fun h => absurd h.2.1 (by assumption) | exact fun h => absurd h.2.2 (by assumption) | exact fun h => h.2.1 (by assumption)) (by first | exact fun h => absurd h.1 (by assumption) | exact fun h => absurd h.2.1 (by assumption) | exact fun h => absurd h.2.2 (by assumption) | exact fun h => h.2.1 (by assumption))) _
          | exact none_ (lineF_n1 (by first | exact .inl (by assumption) | exact .inr (.inr (by assumption)) | exact .inr (.inl (Bool.eq_false_iff.2 (by assumption))))) _
      · have hB2 : ¬(((Txt.split l sp1).length : Int) = 2) := by omega
        have := none_ (lineF_len hA hB)
        simp [b__law_read_1, sp1l, e0, sz1, hB2]
        repeat' (refine ite_of (fun _ => ?_) (fun _ => ?_))
        all_goals first
          | exact this _
          | (exfalso; simp_all; done)
  · rintro _ ⟨k, s, ls, x5, x6, x7, e1, rfl, hk, hI⟩
    cases ls with
    | cons l ls => cases e1
    | nil =>
      have : k = (linesF t).length := by simpa using hk
      subst this
      exact hn s [] x5 x6 x7 hI
theorem plain__law_read (h : sp__law_read K ts R XR) : m__law_read K (begin_ N__law_read ts) (dEnds 0 P__law_read.length R XR) := by
  obtain ⟨t, rfl, hw, k⟩ := h
  unfold big at hw
  have fin_ : ∀ s : Rd0, readI t (linesF t).length s [] → readF t = ((if s.rows = [] then 1 else 0), s) := fun s h => h.1.symm
  have loop : ∀ (x4 : Option T) (M : VEnds), M.rt = (fun t Γ => R t (fin 0 1 Γ)) → (∀ (s : Rd0) x4 x5 x6 x7, R (.frz (.tup [.int (if s.rows = [] then 1 else 0), dStrs s.rows, dStrs s.marks, .bl s.lots])) [none] → M.nx [some (.frz (.str t)), some (.bl (s.rows.map D.str)), some (.bl (s.marks.map D.str)), some (.frz (.bl s.lots)), x4, x5, x6, x7]) → forL (VL.tTup 2 (VL.tCons (tN 5) (VL.tCons (tN 6) VL.tNil))) (b__law_read_1 K) M (enumD 0 ((linesF t).map D.str)) [some (.frz (.str t)), some (.bl []), some (.bl []), some (.frz (.bl false)), x4, none, none, none] := by
    intro x4 M hr hn
    refine read_loop hw (fun s Γ x5 x6 x7 hI => hn s x4 x5 x6 x7 ?_) (fun Γ => ?_)
    · rw [fin_ s hI] at k
      by_cases h : s.rows = [] <;> simpa [h] using k
    · rw [hr]; exact k
  simp [m__law_read, begin_, N__law_read, dEnds, fin, nl1, sp1l]
  split
  · rename_i ht
    have e : linesF t = [] := if_pos ht
    have := loop (some (.frz (.lst [])))
    rw [e] at this
    refine this _ rfl fun s x4 x5 x6 x7 h => ?_
    simp
    simpa using h
  · rename_i ht
    have e : linesF t = Txt.split t nl := if_neg ht
    refine ⟨Nat.le_of_lt (sz_of (by omega)), ?_⟩
    have := loop (some (.frz (.lst ((Txt.split t nl).map D.str))))
    rw [e] at this
    refine this _ rfl fun s x4 x5 x6 x7 h => ?_
    simp
    simpa using h
end
end K01
set_option Elab.async false
set_option linter.all false
set_option autoImplicit false
set_option maxRecDepth 100000
set_option maxHeartbeats 4000000
namespace K01
open PySem PySem.Spec PySem.Calls L2 VL
open PyProof.Rows hiding St
section
variable {K : PySem.W.Frag} (ts : List T) (R : T → Sl → Prop) (XR : XRl)
theorem isNm_empty : isNm ("" : Str) = false := by decide +kernel
theorem lineF_words {s : Rd0} {l : Str} : lineF s (wordsF l) = lineF s (Txt.split l sp1) := by
  unfold wordsF
  split
  · rename_i h
    generalize Txt.split l sp1 = ws at h
    have e : lineF s [] = none := by unfold lineF; rw [if_neg (by simp)]
    rw [e]
    match ws, h with
    | [a], h =>
      have ha : a = "" := (List.mem_singleton.1 h).symm
      subst ha
      unfold lineF
      rw [if_neg (by intro h; exact absurd h.1 (by decide))]
    | [a, b], h =>
      rw [List.mem_cons, List.mem_singleton] at h
      rcases h with h | h
      · subst h
        exact (lineF_n2 (fun h => absurd h.1 (by decide)) (fun h => absurd h.1 (by decide))).symm
      · subst h
        exact (lineF_n1 (.inr (.inl isNm_empty))).symm
    | a :: b :: c :: r, h =>
      unfold lineF
      rw [if_neg (by intro h; exact absurd h.1 (by simp))]
  · rfl
theorem ok_bad {i : Int} {R : List (Str × D) → Prop} (h : R [("line", .int i)]) (h0 : 0 ≤ i) (h1 : i < 2 ^ 30) : ok_BadScene [.int i] R := by
  have hl : (Str.ofString (toString i)).length ≤ 10 := toString_length_le h0 (by decide) (by omega)
  have hg : i.natAbs.log2 < 1920 := by
    by_cases hz : i.natAbs = 0
    · rw [hz]; decide
    · rw [Nat.log2_lt hz]
      exact Nat.lt_of_lt_of_le (show i.natAbs < 2 ^ 30 by omega) (Nat.pow_le_pow_right (by decide) (by decide))
  have a1 : ((Str.empty ++ ("line " : Str))).length = 5 := by decide +kernel
  have a2 : (" of the scene is wrong" : Str).length = 22 := by decide +kernel
  have b1 : (Str.empty ++ ("line " : Str) ++ Str.ofString (toString i)).length ≤ 15 := by rw [Str.length_append, a1]; omega
  have b2 : (Str.empty ++ ("line " : Str) ++ Str.ofString (toString i) ++ (" of the scene is wrong" : Str)).length ≤ 37 := by rw [Str.length_append, a2]; omega
  exact ⟨_, rfl, by rw [a1]; exact Nat.le_of_lt (sz_of (by omega)), hg, _, rfl, Nat.le_of_lt (sz_of (by omega)), _, rfl, Nat.le_of_lt (sz_of (by omega)), by simp [mJs, e_BadScene_init, N_BadScene_init]; exact h⟩
theorem eq2 {a b s : Str} {R : T → Prop} : oEq (.lst [.str a, .str b]) (.lst [.str s]) R = R (.frz (.bl false)) := by
  have := x_eqL1 (R := R) (a := [a, b]) (s := s)
  simpa using this
def selfT (K : PySem.W.Frag) : T := .bo (He.ga K "Scene") []
theorem init_loop {t : Str} (hw : t.length ≤ 1000000) {x5 : Option T} {M : VEnds} (hn : ∀ (s : Rd0) x6 x7 x8, readI t (linesF t).length s [] → M.nx [some (selfT K), some (.frz (.str t)), some (.bl (s.rows.map D.str)), some (.bl (s.marks.map D.str)), some (.frz (.bl s.lots)), x5, x6, x7, x8])
    (hr : ∀ k : Nat, (k : Int) + 1 = (readF t).1 → ∀ Γ, Γ[0]? = some (some (selfT K)) → Γ[1]? = some (some (.frz (.str t))) → M.xr (He.ga K "BadScene") [("line", .int (readF t).1)] Γ) :
    forL (VL.tTup 2 (VL.tCons (tN 6) (VL.tCons (tN 7) VL.tNil))) (b_Scene_init_1 K) M (enumD 0 ((linesF t).map D.str)) [some (selfT K), some (.frz (.str t)), some (.bl []), some (.bl []), some (.frz (.bl false)), x5, none, none, none] := by
  refine forL_inv (fun ds Γ => ∃ (k : Nat) (s : Rd0) (ls : List Str) (x6 x7 x8 : Option T), ds = enumD k (ls.map D.str) ∧ Γ = [some (selfT K), some (.frz (.str t)), some (.bl (s.rows.map D.str)), some (.bl (s.marks.map D.str)), some (.frz (.bl s.lots)), x5, x6, x7, x8] ∧ k + ls.length = (linesF t).length ∧ readI t k s ls) ?_ ?_ _ _ ⟨0, ⟨[], [], false⟩, linesF t, none, none, none, rfl, rfl, by omega, rfl, lines_le.2, by have := (lines_le (t := t)).1; omega, by simp⟩
  · rintro d ds _ N ⟨k, s, ls, x6, x7, x8, e1, rfl, hk, hI⟩ hN
    cases ls with
    | nil => cases e1
    | cons l ls =>
      cases e1
      have hl := hI.2.1 l List.mem_cons_self
      have h4 := hI.2.2.2
      have h3 := hI.2.2.1
      simp only [List.length_cons] at h3 hk
      have some_ : ∀ s' x6 x7 x8, lineF s (wordsF l) = some s' → s'.rows.length + s'.marks.length ≤ s.rows.length + s.marks.length + 1 → N [some (selfT K), some (.frz (.str t)), some (.bl (s'.rows.map D.str)), some (.bl (s'.marks.map D.str)), some (.frz (.bl s'.lots)), x5, x6, x7, x8] := fun s' x6 x7 x8 e hb =>
        hN _ ⟨k + 1, s', ls, x6, x7, x8, rfl, rfl, by omega, readI_some hI (by rw [← lineF_words]; exact e) hb⟩
      have none_ : lineF s (wordsF l) = none → ∀ Γ, Γ[0]? = some (some (selfT K)) → Γ[1]? = some (some (.frz (.str t))) → ok_BadScene [.int (k + 1)] fun fs => M.xr (He.ga K "BadScene") fs Γ := fun e Γ g0 g1 => by
        have hf := readI_none hI (by rw [← lineF_words]; exact e)
        have := hr k (by rw [hf]; simp) Γ g0 g1
        rw [hf] at this
        exact ok_bad this (by omega) (by omega)
      have hws : ∀ z ∈ wordsF l, z.length ≤ l.length := fun z hz => by
        unfold wordsF at hz
        split at hz
        · cases hz
        · exact part_short hz
      have sz2 : s.rows.length + s.marks.length ≤ sizeLine := Nat.le_of_lt (sz_of (by omega))
      have sz3 : s.rows.length < sizeLine := sz_of (by omega)
      have sz4 : s.marks.length < sizeLine := sz_of (by omega)
      have hb0 : l.length ≤ big := by unfold big; omega
      simp only [enumD, List.map, b_Scene_init_1]
      simp
      refine ⟨l, rfl, hb0, fun r hv => ?_⟩
      generalize wordsF l = ws at *
      by_cases hA : ws = [("lots" : Str)] ∧ s.rows ≠ [] ∧ s.lots = false
      · have := some_ { s with lots := true } (some (.frz (.int k))) (some (.frz (.str l))) (some r) (lineF_lots hA) (by simp)
        simp [hv]
        rw [if_pos hA.1]
        simp [hA.2.1, hA.2.2]
        simpa using this
      by_cases hB : ws.length = 2
      · match ws, hB with
        | [a, b], _ =>
        have hb : b.length ≤ big := by have := hws b (by simp); omega
        have nlo : ¬([a, b] = [("lots" : Str)]) := by simp
        simp [hv, sz2, sz3, sz4, at0, at1, inA, sp_is_name, hb, eq2]
        have i1 : ((s.rows.length : Int) < 3) ↔ s.rows.length < 3 := by omega
        have i2 : ((s.marks.length : Int) < 2) ↔ s.marks.length < 2 := by omega
        have r1 := some_ { s with rows := s.rows ++ [b] } (some (.frz (.int k))) (some (.frz (.str l))) (some r)
        have r2 := some_ { s with marks := s.marks ++ [b] } (some (.frz (.int k))) (some (.frz (.str l))) (some r)
        simp only [List.map_append, List.map_cons, List.map_nil, List.length_append, List.length_cons, List.length_nil] at r1 r2
        simp only [i1, i2]
        clear hN some_ hI hA i1 i2
        repeat' (refine ite_of (fun _ => ?_) (fun _ => ?_))
        all_goals first
          | exact r1 (lineF_row (by assumption) (by assumption) (by assumption) (by assumption) (by assumption) (by assumption)) (by omega)
          | exact r2 (lineF_mark (by assumption) (by assumption) (by assumption) (by first | exact fun h => absurd h.1 (by assumption) | exact fun h => absurd h.2.1 (by assumption) | exact fun h => absurd h.2.2 (by assumption) | exact fun h => h.2.1 (by assumption)) (by assumption) (by assumption) (by assumption)) (by omega)
          | exact none_ (lineF_n2 (by first | exact fun h => absurd h.1 (by assumption) | exact fun h => absurd h.2.1 (by assumption) | exact fun h => absurd h.2.2 (by assumption) | exact fun h => h.2.1 (by assumption)) (by first | exact fun h => absurd h.1 (by assumption) | exact fun h => absurd h.2.1 (by assumption) | exact fun h => absurd h.2.2 (by assumption) | exact fun h => h.2.1 (by assumption))) _ rfl rfl
          | exact none_ (lineF_n1 (by first | exact .inl (by assumption) | exact .inr (.inr (by assumption)) | exact .inr (.inl (Bool.eq_false_iff.2 (by assumption))))) _ rfl rfl
      · have hB2 : ¬((ws.length : Int) = 2) := by omega
        have := none_ (lineF_len hA hB)
        simp [hv, hB2]
        repeat' (refine ite_of (fun _ => ?_) (fun _ => ?_))
        all_goals first
          | exact this _ rfl rfl
          | (exfalso; simp_all; done)
  · rintro _ ⟨k, s, ls, x6, x7, x8, e1, rfl, hk, hI⟩
    cases ls with
    | cons l ls => cases e1
    | nil =>
      have : k = (linesF t).length := by simpa using hk
      subst this
      exact hn s x6 x7 x8 hI
end
end K01
set_option Elab.async false
set_option linter.all false
set_option autoImplicit false
set_option maxRecDepth 100000
set_option maxHeartbeats 4000000
namespace K01
open PySem PySem.Spec PySem.Calls L2 VL
open PyProof.Rows hiding St
section
variable {K : PySem.W.Frag} (ts : List T) (R : T → Sl → Prop) (XR : XRl)
theorem plain_Scene_init (h : sp_Scene_init K ts R XR) : m_Scene_init K (begin_ N_Scene_init ts) (dEnds 1 P_Scene_init.length R XR) := by
  obtain ⟨t, rfl, hw, k, kx⟩ := h
  have hw' : t.length ≤ 1000000 := hw
  simp [m_Scene_init, begin_, N_Scene_init, dEnds, fin]
  refine ⟨t, rfl, hw, ?_⟩
  simp
  refine init_loop (K := K) hw' (fun s x6 x7 x8 hI => ?_) (fun k0 hk Γ g0 g1 => ?_)
  · have e : readF t = ((if s.rows = [] then 1 else 0), s) := hI.1.symm
    by_cases hr : s.rows = []
    · have e1 : (readF t).1 = 1 := by rw [e]; simp [hr]
      have h1 := kx (by rw [e1]; decide)
      rw [e1] at h1
      have := ok_bad (R := fun fs => XR (He.ga K "BadScene") fs [some (selfT K), none]) h1 (by omega) (by omega)
      simp
      rw [if_pos hr]
      exact this
    · have e1 : (readF t).1 = 0 := by rw [e]; simp [hr]
      have e2 : (readF t).2 = s := by rw [e]
      have := k e1
      simp
      rw [if_neg hr]
      refine ⟨_, _, rfl, rfl, by simp, rfl, (show 1 < 1000 by decide), rfl, (show 2 < 1000 by decide), rfl, (show 3 < 1000 by decide), ?_⟩
      unfold flds at this
      rw [e2] at this
      exact this
  · have e : Γ.take 1 = [some (selfT K)] := by
      cases Γ with
      | nil => cases g0
      | cons x Γ => simp only [List.getElem?_cons_zero, Option.some.injEq] at g0; subst g0; rfl
    show XR _ _ (Γ.take 1 ++ [none])
    rw [e]
    exact kx (by omega)
theorem plain_Scene_eq (hC : InsC K (He.ga K "Scene")) (hk : PySem.W.kitOne K (.ref (He.ga K "Scene")) (.ref (He.ga K "Scene")) = some true) (h : sp_Scene_eq K ts R XR) : m_Scene_eq K (begin_ N_Scene_eq ts) (dEnds 0 P_Scene_eq.length R XR) := by
  obtain ⟨a, b, rfl, k⟩ := h
  simp [m_Scene_eq, begin_, N_Scene_eq, dEnds, fin, scO]
  refine ⟨_, _, _, true, (by simp only [T.toD]; rfl), rfl, hC, hk, ?_⟩
  simp only [x_tB, if_true]
  have ha : ∀ (t : Str) (k : D → Prop), k (.str t) → (T.frz (T.bo (He.ga K "Scene") (flds t)).toD).fld [He.ga K "Scene"] "text" k := fun t k h => by
    simp only [T.toD]
    exact ⟨List.mem_singleton.2 rfl, h⟩
  refine ha a _ (ha b _ ?_)
  rw [x_eqS]
  exact k
/-- what the head must tell of the exception's class -/
structure TFx (K : PySem.W.Frag) : Prop where
  ex : PySem.W.exmOne K (.ref (He.ga K "BadScene")) (.ref (He.ga K "BadScene")) = some true
  xc : ExcC K (He.ga K "BadScene")
  xf : XfC K (He.ga K "BadScene")
  nl : PySem.W.findIn K (.ref (He.ga K "BadScene")) "line" = some none
  k1 : PySem.W.kitOne K (.ref (He.ga K "BadScene")) (.ref (He.ga K "SeatError")) = some true
  k2 : PySem.W.kitOne K (.ref (He.ga K "BadScene")) (.type "ValueError") = some true
theorem plain__law_told (hx : TFx K) (h : sp__law_told K ts R XR) : m__law_told K (begin_ N__law_told ts) (dEnds 0 P__law_told.length R XR) := by
  obtain ⟨t, rfl, hw, k⟩ := h
  simp [m__law_told, begin_, N__law_told, dEnds, fin]
  refine ⟨t, rfl, hw, fun h0 => ?_, fun h0 => ?_⟩
  · refine ⟨rfl, _, _, rfl, ?_⟩
    unfold toldD at k
    rw [if_pos h0] at k
    have hm : He.ga K "Scene" ∈ [He.ga K "Scene"] := List.mem_singleton.2 rfl
    simp
    exact ⟨hm, hm, hm, hm, k⟩
  · unfold toldD at k
    rw [if_neg h0] at k
    refine .inr ⟨hx.ex, by simp, fun a d => ?_⟩
    simp
    refine ⟨true, ⟨hx.xc, hx.k1⟩, ⟨_, rfl⟩, ?_⟩
    simp
    refine ⟨true, ⟨hx.xc, hx.k2⟩, ⟨_, rfl⟩, ?_⟩
    simp
    exact ⟨⟨hx.xf, hx.nl⟩, _, _, rfl, rfl, k⟩
end
end K01
set_option Elab.async false
set_option linter.all false
set_option autoImplicit false
set_option maxRecDepth 100000
set_option maxHeartbeats 4000000
namespace K01
open PySem PySem.Spec PySem.Calls L2 VL
open PyProof.Rows hiding St
/-- how heavy a list of lines is -/
def wt (l : List Str) : Nat := (l.map (·.length)).sum + l.length
theorem wt_nil : wt [] = 0 := rfl
theorem wt_cons (a : Str) (l : List Str) : wt (a :: l) = a.length + 1 + wt l := by simp [wt]; omega
theorem wt_app (a b : List Str) : wt (a ++ b) = wt a + wt b := by simp [wt]; omega
theorem wt_cut (l : List Str) (k : Nat) : wt (l.take k) + wt (l.drop k) = wt l := by
  rw [← wt_app, List.take_append_drop]
theorem wt_drop (l : List Str) (k : Nat) : wt (l.drop k) ≤ wt l := by have := wt_cut l k; omega
theorem wt_mem {l : List Str} {z : Str} (h : z ∈ l) : z.length + 1 ≤ wt l := by
  induction l with
  | nil => cases h
  | cons a l ih =>
    rw [wt_cons]
    rcases List.mem_cons.1 h with rfl | h
    · omega
    · have := ih h; omega
theorem wt_set {l : List Str} {k : Nat} {z y : Str} (h : l[k]? = some y) : wt (l.set k z) + y.length = wt l + z.length := by
  induction l generalizing k with
  | nil => simp at h
  | cons a l ih =>
    cases k with
    | zero => simp at h; subst h; simp [wt_cons]; omega
    | succ k => have := ih (k := k) (by simpa using h); simp [wt_cons]; omega
theorem wt_split (x y : Str) (h : 1 ≤ y.length) : wt (Txt.split x y) ≤ x.length + 1 := split_weight x y h
theorem wt_len (l : List Str) : l.length ≤ wt l := by simp [wt]
theorem Txt_join_eq (y : Str) (parts : List Str) : Txt.join y parts = Str.join y parts := TL.join_eq y parts
theorem join_le (s : Str) (l : List Str) : (Txt.join s l).length ≤ (l.map (·.length)).sum + l.length * s.length := by
  rw [Txt_join_eq]; exact StrLaws.join_length_le s l
theorem join_le1 (s : Str) (l : List Str) (h : s.length = 1) : (Txt.join s l).length ≤ wt l := by
  have := join_le s l; rw [h, Nat.mul_one] at this; exact this
section
variable {K : PySem.W.Frag} (ts : List T) (R : T → Sl → Prop) (XR : XRl)
theorem bent_arms {n : Nat} {t : Str} {odd : D} {pen : T} {lines words : List Str} {k way j : Int} {word l : Str} {M : VEnds} (hp : penOk n pen) (hn : n + 5 < most) (hk0 : 0 ≤ k) (hk : k < lines.length) (hl : lines[k.toNat]? = some l) (hw0 : 0 ≤ way) (hj0 : 0 ≤ j) (hj : j < (words.length : Int) + 1)
    (htl : t.length ≤ 1000) (hlw : wt lines ≤ t.length + 1) (hww : wt words ≤ l.length + 1) (hwd : word.length ≤ t.length + 20)
    (hM : ∀ (found : List Str) (pen' : T) x2 x3 x4 x6 x7 x8 x9 x10, penOk (n + 5) pen' → wt found ≤ 2 * t.length + 50 → M.nx [some pen', some (.frz (.str t)), x2, x3, x4, some (.bl (found.map D.str)), x6, x7, x8, x9, x10]) :
    i__law_bent_1 K [some pen, some (.frz (.str t)), some (.frz odd), some (.bl (lines.map D.str)), some (.frz (.int k)), some (.bl (lines.map D.str)), some (.frz (.int way)), some (.bl (words.map D.str)), some (.frz (.int j)), some (.frz (.str word)), none] M := by
  have hM' : ∀ (m : Nat), m ≤ 5 → ∀ (found : List Str) (pen' : T) x2 x3 x4 x6 x7 x8 x9 x10, penOk (n + m) pen' → wt found ≤ 2 * t.length + 50 → M.nx [some pen', some (.frz (.str t)), x2, x3, x4, some (.bl (found.map D.str)), x6, x7, x8, x9, x10] := by
    intro m hm found pen' x2 x3 x4 x6 x7 x8 x9 x10 ⟨c, tu, le, e1, e2, e3, e4⟩ h2
    exact hM found pen' _ _ _ _ _ _ _ _ ⟨c, tu, le, e1, e2, by omega, e4⟩ h2
  have hkx : ixN lines.length k = some k.toNat := by unfold ixN; rw [if_pos hk0, if_pos hk]
  have hat : atI (lines.map D.str) k = some (.str l) := by
    rw [VL.atI_ok hk0 (by rw [List.length_map]; exact hk), List.getElem?_map, hl]; rfl
  have hll : l.length + 1 ≤ wt lines := wt_mem (List.mem_of_getElem? hl)
  have c1 := cut_to (l := words.map D.str) hj0
  have c2 := cut_from (l := words.map D.str) hj0
  have c3 := cut_from (l := words.map D.str) (i := j + 1) (by omega)
  have c4 := cut_to (l := lines.map D.str) hk0
  have c5 := cut_from (l := lines.map D.str) hk0
  have c6 := cut_from (l := lines.map D.str) (i := k + 1) (by omega)
  have hsz : ∀ m : Nat, m ≤ 100000 → m ≤ sizeLine := fun m h => Nat.le_of_lt (sz_of (by omega))
  have w1 := wt_cut words j.toNat
  have w2 := wt_cut words (j + 1).toNat
  have w5 : wt (words.drop (j + 1).toNat) ≤ wt (words.drop j.toNat) := by
    rw [show (j + 1).toNat = j.toNat + 1 by omega, ← List.drop_drop]; exact wt_drop _ _
  have w6 : wt (lines.drop (k + 1).toNat) ≤ wt (lines.drop k.toNat) := by
    rw [show (k + 1).toNat = k.toNat + 1 by omega, ← List.drop_drop]; exact wt_drop _ _
  have w3 := wt_cut lines k.toNat
  have w4 := wt_cut lines (k + 1).toNat
  have l1 := wt_len words
  have l2 := wt_len lines
  have jn1 : ∀ (a b : List Str) (w : Str) (R : T → Prop), wt a + wt b + w.length + 1 ≤ 10000 → (∀ z : Str, z.length ≤ wt a + wt b + w.length + 1 → R (.frz (.str z))) → oJoin " " [.lst (a.map D.str ++ (.str w :: b.map D.str))] R := by
    intro a b w R h1 h2
    have e : a.map D.str ++ (.str w :: b.map D.str) = (a ++ w :: b).map D.str := by simp
    rw [e, x_joinL, sp1l]
    have := join_le1 " " (a ++ w :: b) sp1l
    rw [wt_app, wt_cons] at this
    refine ⟨?_, h2 _ (by omega)⟩
    have : (((a ++ w :: b).map (·.length)).sum + (a ++ w :: b).length * 1) = wt (a ++ w :: b) := by simp [wt]
    rw [this, wt_app, wt_cons]
    omega
  have jn0 : ∀ (a b : List Str) (R : T → Prop), wt a + wt b ≤ 10000 → (∀ z : Str, z.length ≤ wt a + wt b → R (.frz (.str z))) → oJoin " " [.lst (a.map D.str ++ b.map D.str)] R := by
    intro a b R h1 h2
    have e : a.map D.str ++ b.map D.str = (a ++ b).map D.str := by simp
    rw [e, x_joinL, sp1l]
    have := join_le1 " " (a ++ b) sp1l
    rw [wt_app] at this
    refine ⟨?_, h2 _ (by omega)⟩
    have : (((a ++ b).map (·.length)).sum + (a ++ b).length * 1) = wt (a ++ b) := by simp [wt]
    rw [this, wt_app]
    omega
  unfold i__law_bent_1
  have sp : ∀ (z : Str) (m : Nat), m ≤ 5 → ∀ (pen' : T) x2 x3 x4 x6 x7 x8 x9 x10, penOk (n + m) pen' → z.length ≤ l.length + t.length + 40 → M.nx [some pen', some (.frz (.str t)), x2, x3, x4, some (.bl ((lines.map D.str).set k.toNat (.str z))), x6, x7, x8, x9, x10] := by
    intro z m hm pen' x2 x3 x4 x6 x7 x8 x9 x10 hp' hz
    have hs := wt_set (z := z) hl
    have := hM' m hm (lines.set k.toNat z) pen' x2 x3 x4 x6 x7 x8 x9 x10 hp' (by omega)
    rw [List.map_set] at this
    exact this
  by_cases h1 : way < 3
  · simp [h1, c1, c3, hkx]
    rw [← List.map_take, ← List.map_drop]
    refine ⟨hsz _ (by omega), hsz _ (by omega), jn1 _ _ _ _ (by omega) fun z hz => ?_⟩
    exact sp z 0 (by omega) pen _ _ _ _ _ _ _ _ hp (by omega)
  by_cases h2 : way = 3
  · simp [h2, c1, c2, hkx]
    rw [← List.map_take, ← List.map_drop]
    refine ⟨hsz _ (by omega), hsz _ (by omega), jn1 _ _ _ _ (by omega) fun z hz => ?_⟩
    exact sp z 0 (by omega) pen _ _ _ _ _ _ _ _ hp (by omega)
  by_cases h3 : way = 4
  · simp [h3, c1, c3, hkx]
    rw [← List.map_take, ← List.map_drop]
    refine ⟨hsz _ (by omega), jn0 _ _ _ (by omega) fun z hz => ?_⟩
    exact sp z 0 (by omega) pen _ _ _ _ _ _ _ _ hp (by omega)
  by_cases h4 : way = 5
  · simp [h4, hkx, hat]
    have e1 : (" " : Str).length = 1 := sp1l
    have e2 : ("  " : Str).length = 2 := by decide +kernel
    have e3 : ("" : Str).length = 0 := by decide +kernel
    have hj2 := join_le "  " words
    have hwe : (words.map (·.length)).sum + words.length = wt words := rfl
    rw [e2] at hj2
    refine ⟨hsz _ (by omega), hsz _ (by omega), by rw [e2]; omega, n, _, pen, rfl, hp, by omega, by simp, by simp, fun d pen' hd hp' => ?_⟩
    obtain ⟨z, rfl, hz⟩ : ∃ z : Str, d = .str z ∧ z.length ≤ l.length + t.length + 40 := by
      simp only [List.mem_cons, List.not_mem_nil, or_false] at hd
      rcases hd with rfl | rfl | rfl | rfl
      · exact ⟨_, rfl, by rw [Str.length_append]; omega⟩
      · exact ⟨_, rfl, by rw [Str.length_append]; omega⟩
      · exact ⟨_, rfl, by omega⟩
      · exact ⟨_, rfl, by omega⟩
    simp [hkx]
    exact sp z 1 (by omega) pen' _ _ _ _ _ _ _ _ hp' hz
  by_cases h5 : way = 6
  · simp [h5, c4, c6]
    rw [← List.map_take, ← List.map_drop, ← List.map_append]
    refine ⟨hsz _ (by omega), hM' 0 (by omega) _ _ _ _ _ _ _ _ _ _ hp ?_⟩
    rw [wt_app]
    omega
  by_cases h6 : way = 7
  · simp [h6, c4, c5]
    refine ⟨n, _, pen, rfl, hp, by omega, by intro e; simp at e; subst e; simp at hk; omega, by rw [List.length_map]; omega, fun d pen' hd hp' => ?_⟩
    obtain ⟨z, hz, rfl⟩ := List.mem_map.1 hd
    have hz2 := wt_mem hz
    simp [c4, c5]
    refine ⟨hsz _ (by omega), hsz _ (by omega), ?_⟩
    have e : List.take k.toNat (lines.map D.str) ++ D.str z :: List.drop k.toNat (lines.map D.str) = (lines.take k.toNat ++ z :: lines.drop k.toNat).map D.str := by simp
    rw [e]
    exact hM' 1 (by omega) (lines.take k.toNat ++ z :: lines.drop k.toNat) pen' _ _ _ _ _ _ _ _ hp' (by rw [wt_app, wt_cons]; omega)
  by_cases h7 : way = 8
  · simp [h7, hkx, hat]
    refine ⟨n, _, pen, rfl, hp, by omega, by omega, by omega, fun r pen' r0 r1 hp' => ?_⟩
    obtain ⟨y, hy⟩ : ∃ y, lines[r.toNat]? = some y := ⟨_, List.getElem?_eq_getElem (by omega)⟩
    have hrx : ixN lines.length r = some r.toNat := by unfold ixN; rw [if_pos r0, if_pos r1]
    have har : atI (lines.map D.str) r = some (.str y) := by
      rw [VL.atI_ok r0 (by rw [List.length_map]; exact r1), List.getElem?_map, hy]; rfl
    simp [hkx, hat, hrx, har]
    have s1 := wt_set (z := y) hl
    have hy2 : (lines.set k.toNat y)[r.toNat]? = some y := by
      by_cases e : k.toNat = r.toNat
      · rw [e, List.getElem?_set_self (by omega)]
      · rw [List.getElem?_set_ne e]; exact hy
    have s2 := wt_set (z := l) hy2
    have := hM' 1 (by omega) ((lines.set k.toNat y).set r.toNat l) pen' (some (T.frz odd)) (some (T.bl (lines.map D.str))) (some (T.frz (D.int k))) (some (T.frz (D.int 8))) (some (T.bl (words.map D.str))) (some (T.frz (D.int j))) (some (T.frz (D.str word))) (some (T.frz (D.int r))) hp' (by omega)
    rw [List.map_set, List.map_set] at this
    exact this
  · simp [h1, h2, h3, h4, h5, h6, h7, c4]
    rw [← List.map_take]
    exact hM' 0 (by omega) _ _ _ _ _ _ _ _ _ _ hp (by omega)
theorem plain__law_bent (h : sp__law_bent K ts R XR) : m__law_bent K (begin_ N__law_bent ts) (dEnds 1 P__law_bent.length R XR) := by
  obtain ⟨n, t, odd, pen, rfl, hp, hn, ht, ho, hz, k⟩ := h
  have hw : t.length + 2 ≤ sizeLine := Nat.le_of_lt (sz_of (by omega))
  have hL1 : 1 ≤ (Txt.split t nl).length := split_pos _ _
  have hLe := split_le t nl
  have hLw := wt_split t nl (by rw [show nl.length = 1 from nl1]; decide)
  have hLm : ∀ z ∈ Txt.split t nl, z.length ≤ t.length := fun z hz => part_short hz
  have e0 : Txt.split t ("\n" : Str) = Txt.split t nl := rfl
  simp [m__law_bent, begin_, N__law_bent, dEnds, fin, nl1, sp1l, hw, e0]
  generalize Txt.split t nl = L at *
  refine ⟨n, _, pen, rfl, hp, by omega, by omega, by omega, fun r1 pen1 a0 a1 hp1 => ?_⟩
  simp
  refine ⟨n + 1, _, pen1, rfl, hp1, by omega, by omega, by omega, fun r2 pen2 b0 b1 hp2 => ?_⟩
  simp
  obtain ⟨l, hl⟩ : ∃ l, L[r1.toNat]? = some l := ⟨_, List.getElem?_eq_getElem (by omega)⟩
  have hat : atI (L.map D.str) r1 = some (.str l) := by
    rw [VL.atI_ok a0 (by rw [List.length_map]; exact a1), List.getElem?_map, hl]; rfl
  have hll := hLm l (List.mem_of_getElem? hl)
  have hW1 : 1 ≤ (Txt.split l sp1).length := split_pos _ _
  have hWe := split_le l sp1
  have hWw := wt_split l sp1 (by rw [show sp1.length = 1 from sp1l]; decide)
  have hWm : ∀ z ∈ Txt.split l sp1, z.length ≤ l.length := fun z hz => part_short hz
  have e1 : Txt.split l (" " : Str) = Txt.split l sp1 := rfl
  have hl2 : l.length + 2 ≤ sizeLine := Nat.le_of_lt (sz_of (by omega))
  simp [hat, e1, hl2]
  obtain ⟨l0, hl0⟩ : ∃ l0, L[0]? = some l0 := ⟨_, List.getElem?_eq_getElem (by omega)⟩
  have hat0 : atI (L.map D.str) 0 = some (.str l0) := by
    rw [VL.atI_ok (by omega) (by rw [List.length_map]; omega), Int.toNat_zero, List.getElem?_map, hl0]; rfl
  have hll0 := hLm l0 (List.mem_of_getElem? hl0)
  have hVe := split_le l0 sp1
  have hVm : ∀ z ∈ Txt.split l0 sp1, z.length ≤ l0.length := fun z hz => part_short hz
  have e2 : Txt.split l0 (" " : Str) = Txt.split l0 sp1 := rfl
  have hl02 : l0.length + 2 ≤ sizeLine := Nat.le_of_lt (sz_of (by omega))
  generalize Txt.split l sp1 = W at *
  generalize Txt.split l0 sp1 = W0 at *
  refine ⟨n + 2, _, pen2, rfl, hp2, by omega, by omega, by omega, fun r3 pen3 c0 c1 hp3 => ?_⟩
  have z1 : odd.length + W.length ≤ sizeLine := Nat.le_of_lt (sz_of (by omega))
  have z2 : odd.length + W.length + W0.length ≤ sizeLine := Nat.le_of_lt (sz_of (by omega))
  simp [hat0, e2, hl02, z1, z2]
  refine ⟨n + 3, _, pen3, rfl, hp3, by omega, ?_, ?_, fun d pen4 hd hp4 => ?_⟩
  · intro e
    have := congrArg List.length e
    simp only [List.length_append, List.length_map, List.length_nil] at this
    omega
  · simp only [List.length_append, List.length_map]; omega
  obtain ⟨w, rfl, hw20⟩ : ∃ w : Str, d = .str w ∧ w.length ≤ t.length + 20 := by
    simp only [List.mem_append, List.mem_map] at hd
    rcases hd with ⟨z, h, rfl⟩ | ⟨z, h, rfl⟩ | ⟨z, h, rfl⟩
    · exact ⟨z, rfl, by have := hz z h; omega⟩
    · exact ⟨z, rfl, by have := hWm z h; omega⟩
    · exact ⟨z, rfl, by have := hVm z h; omega⟩
  simp
  refine bent_arms hp4 (by omega) a0 a1 hl b0 c0 c1 (by omega) hLw hWw hw20 (fun found pen5 x2 x3 x4 x6 x7 x8 x9 x10 hp5 hf => ?_)
  have hj := join_le1 nl found nl1
  have e9 : ((found.map (·.length)).sum + found.length * 1) = wt found := by simp [wt]
  simp [nl1]
  refine ⟨by have : (found.map (·.length)).sum + found.length = wt found := rfl; omega, k (Txt.join nl found) _ (by omega) ?_⟩
  obtain ⟨c, tu, le, q1, q2, q3, q4⟩ := hp5
  exact ⟨c, tu, le, q1, q2, by omega, q4⟩
end
end K01
set_option Elab.async false
set_option linter.all false
set_option autoImplicit false
set_option maxRecDepth 100000
set_option maxHeartbeats 4000000
namespace K01
open PySem PySem.Spec PySem.Calls L2 VL
open PyProof.Rows hiding St
/-! ### what is printed is read back -/
theorem sp_row : ∀ x ∈ names11, Txt.split (("row " : Str) ++ x) sp1 = [("row" : Str), x] := by decide +kernel
theorem sp_mark : ∀ x ∈ names11, Txt.split (("mark " : Str) ++ x) sp1 = [("mark" : Str), x] := by decide +kernel
theorem sp_lots : Txt.split ("lots" : Str) sp1 = [("lots" : Str)] := by decide +kernel
theorem nm_ok : ∀ x ∈ names11, isNm x = true := by decide +kernel
theorem no_row : ∀ x ∈ names11, 10 ∉ TL.tl (("row " : Str) ++ x) := by decide +kernel
theorem no_mark : ∀ x ∈ names11, 10 ∉ TL.tl (("mark " : Str) ++ x) := by decide +kernel
theorem no_lots : 10 ∉ TL.tl ("lots" : Str) := by decide +kernel
theorem read_rows : ∀ (rs : List Str) (k : Nat) (s : Rd0) (rest : List Str), s.marks = [] → s.lots = false → (s.rows ++ rs).Nodup → s.rows.length + rs.length ≤ 3 → (∀ z ∈ rs, z ∈ names11) → readL k s (rs.map (fun x => ("row " : Str) ++ x) ++ rest) = readL (k + rs.length) { s with rows := s.rows ++ rs } rest
  | [], k, s, rest, _, _, _, _, _ => by simp
  | r :: rs, k, s, rest, hm, hl, hn, h3, hg => by
    have hr := hg r List.mem_cons_self
    have hnr : r ∉ s.rows := fun h => by
      rw [List.nodup_append] at hn
      exact hn.2.2 r h r List.mem_cons_self rfl
    simp only [List.length_cons] at h3
    have e : lineF s [("row" : Str), r] = some { s with rows := s.rows ++ [r] } := lineF_row (by rw [hl]; decide) (nm_ok r hr) (by rw [hm]; simpa using hnr) rfl hm (by omega)
    have ih := read_rows rs (k + 1) { s with rows := s.rows ++ [r] } rest hm hl (by simpa using hn) (by simp; omega) (fun z hz => hg z (List.mem_cons_of_mem _ hz))
    simp only [List.map_cons, List.cons_append, readL, sp_row r hr, e]
    rw [ih]
    simp only [List.length_cons, List.append_assoc, List.singleton_append]
    rw [show k + 1 + rs.length = k + (rs.length + 1) by omega]
theorem read_marks : ∀ (rs : List Str) (k : Nat) (s : Rd0) (rest : List Str), s.rows ≠ [] → s.lots = false → (s.rows ++ (s.marks ++ rs)).Nodup → s.marks.length + rs.length ≤ 2 → (∀ z ∈ rs, z ∈ names11) → readL k s (rs.map (fun x => ("mark " : Str) ++ x) ++ rest) = readL (k + rs.length) { s with marks := s.marks ++ rs } rest
  | [], k, s, rest, _, _, _, _, _ => by simp
  | r :: rs, k, s, rest, hm, hl, hn, h3, hg => by
    have hr := hg r List.mem_cons_self
    have hnr : ¬(r ∈ s.rows ∨ r ∈ s.marks) := by
      rw [← List.append_assoc, List.nodup_append] at hn
      intro h
      exact hn.2.2 r (List.mem_append.2 h) r List.mem_cons_self rfl
    simp only [List.length_cons] at h3
    have e : lineF s [("mark" : Str), r] = some { s with marks := s.marks ++ [r] } := lineF_mark (by rw [hl]; decide) (nm_ok r hr) hnr (fun h => absurd h.1 (by decide)) rfl hm (by omega)
    have ih := read_marks rs (k + 1) { s with marks := s.marks ++ [r] } rest hm hl (by simpa using hn) (by simp; omega) (fun z hz => hg z (List.mem_cons_of_mem _ hz))
    simp only [List.map_cons, List.cons_append, readL, sp_mark r hr, e]
    rw [ih]
    simp only [List.length_cons, List.append_assoc, List.singleton_append]
    rw [show k + 1 + rs.length = k + (rs.length + 1) by omega]
theorem read_text {rs ms : List Str} (ok : ScOk rs ms) (b : Bool) : readF (textT rs ms b) = (0, ⟨rs, ms, b⟩) := by
  have hne : linesT rs ms b ≠ [] := by
    unfold linesT
    have := ok.ne
    cases rs with
    | nil => exact absurd rfl this
    | cons a l => simp
  have hsp : Txt.split (textT rs ms b) nl = linesT rs ms b := by
    refine TL.split_join (y := nl) (s := 10) (S := []) rfl (by decide +kernel) hne fun p hp => ?_
    unfold linesT at hp
    rw [List.mem_append, List.mem_append] at hp
    rcases hp with (hz | hz) | hz
    · obtain ⟨x, hx, rfl⟩ := List.mem_map.1 hz
      exact no_row x (ok.good x (List.mem_append_left _ hx))
    · obtain ⟨x, hx, rfl⟩ := List.mem_map.1 hz
      exact no_mark x (ok.good x (List.mem_append_right _ hx))
    · split at hz
      · rw [List.mem_singleton.1 hz]; exact no_lots
      · cases hz
  have hte : textT rs ms b ≠ "" := by
    intro e
    rw [e] at hsp
    have h1 : Txt.split ("" : Str) nl = [("" : Str)] := by decide +kernel
    rw [h1] at hsp
    have h2 : ("" : Str) ∈ linesT rs ms b := by rw [← hsp]; exact List.mem_singleton.2 rfl
    unfold linesT at h2
    rw [List.mem_append, List.mem_append] at h2
    have k1 : ∀ x ∈ names11, ("row " : Str) ++ x ≠ "" := by decide +kernel
    have k2 : ∀ x ∈ names11, ("mark " : Str) ++ x ≠ "" := by decide +kernel
    have k3 : ("lots" : Str) ≠ "" := by decide +kernel
    rcases h2 with (hz | hz) | hz
    · obtain ⟨x, hx, e⟩ := List.mem_map.1 hz
      exact k1 x (ok.good x (List.mem_append_left _ hx)) e
    · obtain ⟨x, hx, e⟩ := List.mem_map.1 hz
      exact k2 x (ok.good x (List.mem_append_right _ hx)) e
    · split at hz
      · exact k3 (List.mem_singleton.1 hz).symm
      · cases hz
  unfold readF linesF
  rw [if_neg hte, hsp]
  unfold linesT
  rw [List.append_assoc, read_rows rs 0 ⟨[], [], false⟩ _ rfl rfl (by have := ok.nd; rw [List.nodup_append] at this; simpa using this.1) (by simpa using ok.r3) (fun z hz => ok.good z (List.mem_append_left _ hz)),
    read_marks ms _ _ _ (by simpa using ok.ne) rfl (by simpa using ok.nd) (by simpa using ok.m2) (fun z hz => ok.good z (List.mem_append_right _ hz))]
  cases b with
  | false => simp [readL, ok.ne]
  | true =>
    have e : lineF ⟨rs, ms, false⟩ [("lots" : Str)] = some ⟨rs, ms, true⟩ := lineF_lots ⟨rfl, ok.ne, rfl⟩
    simp [readL, sp_lots, e, ok.ne]
end K01
set_option Elab.async false
set_option linter.all false
set_option autoImplicit false
set_option maxRecDepth 100000
set_option maxHeartbeats 4000000
namespace K01
open PySem PySem.Spec PySem.Calls L2 VL
open PyProof.Rows hiding St
theorem py_dTups (l : List Str) : (dTups l).py = some (.tuple (l.map PyData.str)) := by simp [dTups, D.py, pys_strs]
def shP (t : Str) (rs ms : List Str) (b : Bool) : List PyData := [.str t, .tuple (rs.map PyData.str), .tuple (ms.map PyData.str), .bool b]
abbrev shD (t : Str) (rs ms : List Str) (b : Bool) : List D := [.str t, dTups rs, dTups ms, .bl b]
theorem pys_sh (t : Str) (rs ms : List Str) (b : Bool) : D.pys (shD t rs ms b) = some (shP t rs ms b) := by
  simp [shD, shP, D.pys, D.py, py_dTups]
theorem shOk_l {t : Str} {rs ms : List Str} {b : Bool} (h : t.length + wt rs + wt ms ≤ 2 ^ 19) : ShOk (.list (shP t rs ms b)) := by
  have h1 := weight_strs rs
  have h2 := weight_strs ms
  have d1 := depth_strs rs
  have d2 := depth_strs ms
  refine shOk_of ?_ ?_ ?_ ?_
  · simp [shP, PyData.showable, PyData.showableAll, showable_strs]
  · simp [shP, PyData.depth, PyData.depthAll]; omega
  · simp [shP, PyData.weight, PyData.weightAll, h1, h2]
    have e : t.cps.size = t.length := rfl
    unfold wt at h
    omega
  · simp [shP, PyData.intsShort, PyData.intsShortAll, intsShort_strs]
theorem shOk_t {t : Str} {rs ms : List Str} {b : Bool} (h : t.length + wt rs + wt ms ≤ 2 ^ 19) : ShOk (.tuple (shP t rs ms b)) := by
  have h1 := weight_strs rs
  have h2 := weight_strs ms
  have d1 := depth_strs rs
  have d2 := depth_strs ms
  refine shOk_of ?_ ?_ ?_ ?_
  · simp [shP, PyData.showable, PyData.showableAll, showable_strs]
  · simp [shP, PyData.depth, PyData.depthAll]; omega
  · simp [shP, PyData.weight, PyData.weightAll, h1, h2]
    have e : t.cps.size = t.length := rfl
    unfold wt at h
    omega
  · simp [shP, PyData.intsShort, PyData.intsShortAll, intsShort_strs]
theorem shOk_i {i : Int} (h0 : 0 ≤ i) (h1 : i < 2 ^ 30) : ShOk (.int i) := by
  have hl : (Str.ofString (toString i)).length ≤ 10 := toString_length_le h0 (by decide) (by omega)
  have hg : i.natAbs.log2 ≤ 30 := by
    by_cases hz : i.natAbs = 0
    · rw [hz]; decide
    · exact Nat.le_of_lt ((Nat.log2_lt hz).2 (by omega))
  refine shOk_of ?_ ?_ ?_ ?_
  · simp [PyData.showable]; omega
  · simp [PyData.depth]
  · simp [PyData.weight]; split <;> omega
  · simp [PyData.intsShort, PyData.shown]; exact Nat.le_trans hl (by decide)
/-- what stands in the fields -/
structure RdOk (s : Rd0) : Prop where
  r3 : s.rows.length ≤ 3
  m2 : s.marks.length ≤ 2
  r : ∀ z ∈ s.rows, z.length ≤ 12
  m : ∀ z ∈ s.marks, z.length ≤ 12
theorem isNm_len {w : Str} (h : isNm w = true) : w.length ≤ 12 := by
  by_cases h2 : w.length ≤ 12
  · exact h2
  · rw [isNm_no fun z => h2 z.2] at h; cases h
theorem lineF_ok {s s' : Rd0} {ws : List Str} (e : lineF s ws = some s') (h : RdOk s) : RdOk s' := by
  by_cases hA : ws = [("lots" : Str)] ∧ s.rows ≠ [] ∧ s.lots = false
  · rw [lineF_lots hA] at e
    cases e
    exact ⟨h.r3, h.m2, h.r, h.m⟩
  by_cases hB : ws.length = 2
  · match ws, hB with
    | [a, b], _ =>
    rw [lineF_two] at e
    by_cases c1 : s.lots = true ∨ isNm b = false ∨ (b ∈ s.rows ∨ b ∈ s.marks)
    · rw [if_pos c1] at e; cases e
    · rw [if_neg c1] at e
      have hb : b.length ≤ 12 := isNm_len (by
        cases e2 : isNm b with
        | true => rfl
        | false => exact absurd (.inr (.inl e2)) c1)
      by_cases c2 : a = "row" ∧ s.marks = [] ∧ s.rows.length < 3
      · rw [if_pos c2] at e; cases e
        refine ⟨by simp; omega, h.m2, fun z hz => ?_, h.m⟩
        rcases List.mem_append.1 hz with hz | hz
        · exact h.r z hz
        · rw [List.mem_singleton.1 hz]; exact hb
      · rw [if_neg c2] at e
        by_cases c3 : a = "mark" ∧ s.rows ≠ [] ∧ s.marks.length < 2
        · rw [if_pos c3] at e; cases e
          refine ⟨h.r3, by simp; omega, h.r, fun z hz => ?_⟩
          rcases List.mem_append.1 hz with hz | hz
          · exact h.m z hz
          · rw [List.mem_singleton.1 hz]; exact hb
        · rw [if_neg c3] at e; cases e
  · rw [lineF_len hA hB] at e; cases e
theorem readL_ok : ∀ (ls : List Str) (k : Nat) (s : Rd0), RdOk s → RdOk (readL k s ls).2 ∧ (readL k s ls).1 ≤ k + ls.length + 1
  | [], k, s, h => by
    simp only [readL]
    refine ⟨h, ?_⟩
    split <;> simp
  | l :: ls, k, s, h => by
    simp only [readL]
    cases e : lineF s (Txt.split l sp1) with
    | none => exact ⟨h, by simp⟩
    | some s' =>
      have := readL_ok ls (k + 1) s' (lineF_ok e h)
      simp only [List.length_cons]
      exact ⟨this.1, by have := this.2; omega⟩
theorem readF_ok (t : Str) : RdOk (readF t).2 ∧ (readF t).1 ≤ t.length + 3 := by
  have := readL_ok (linesF t) 0 ⟨[], [], false⟩ ⟨by simp, by simp, (by simp), (by simp)⟩
  exact ⟨this.1, by have h := this.2; have h2 := (lines_le (t := t)).1; unfold readF; omega⟩
theorem wt_le {l : List Str} {c : Nat} (h : ∀ z ∈ l, z.length ≤ c) : wt l ≤ (c + 1) * l.length := by
  have := list_lt h
  unfold wt
  rw [Nat.add_mul]
  omega
theorem read_wt (t : Str) : wt (readF t).2.rows + wt (readF t).2.marks ≤ 65 := by
  have h := (readF_ok t).1
  have h1 := wt_le h.r
  have h2 := wt_le h.m
  have := h.r3
  have := h.m2
  omega
/-- what told and law_read give is the same -/
theorem told_sh {t : Str} (hw : t.length ≤ 100000) : ∃ p, (toldD t).py = some p ∧ ShOk p := by
  unfold toldD
  split
  · refine ⟨.tuple (shP t (readF t).2.rows (readF t).2.marks (readF t).2.lots), ?_, shOk_t (by have := read_wt t; omega)⟩
    show (D.tup (shD _ _ _ _)).py = _
    simp only [D.py, pys_sh]
  · exact ⟨.int (readF t).1, rfl, shOk_i (by omega) (by have := (readF_ok t).2; omega)⟩
end K01
set_option Elab.async false
set_option linter.all false
set_option autoImplicit false
set_option maxRecDepth 100000
set_option maxHeartbeats 4000000
namespace K01
open PySem PySem.Spec PySem.Calls L2 VL
open PyProof.Rows hiding St
def oddL : List Str := ["row", "mark", "lots", "lot", "", "A", "x1", "it", "qqqqqqqqqqqq", "qqqqqqqqqqqqq", "row q", "z"]
def lim : Nat → Nat
  | 0 => 200
  | 1 => 450
  | _ => 950
section
variable {K : PySem.W.Frag}
theorem law_loop1 {n : Nat} {pen o2 : T} {bent : Str} {x0 x3 x4 x5 x6 x7 x9 x10 x11 x12 x13 x14 x15 : Option T} {M : VEnds} (ns : List D) (hl : ns.length ≤ 2) (ho : o2.toD = dStrs oddL) (hp : penOk n pen) (hn : n + 20 < most) (hb : bent.length ≤ 200)
    (hM : ∀ pen' o2' (bent' : Str) y9, penOk (n + 20) pen' → o2'.toD = dStrs oddL → bent'.length ≤ 950 → M.nx [x0, some pen', some o2', x3, x4, x5, x6, x7, some (.frz (.str bent')), y9, x10, x11, x12, x13, x14, x15]) :
    forL (tN 9) (b_law_1 K) M ns [x0, some pen, some o2, x3, x4, x5, x6, x7, some (.frz (.str bent)), x9, x10, x11, x12, x13, x14, x15] := by
  refine forL_inv (fun ds Γ => ∃ j pen' o2' bent' y9, Γ = [x0, some pen', some o2', x3, x4, x5, x6, x7, some (.frz (.str bent')), y9, x10, x11, x12, x13, x14, x15] ∧ j + ds.length ≤ 2 ∧ penOk (n + 10 * j) pen' ∧ o2'.toD = dStrs oddL ∧ bent'.length ≤ lim j) ?_ ?_ _ _ ⟨0, pen, o2, bent, x9, rfl, by omega, hp, ho, hb⟩
  · rintro d ds _ N ⟨j, pen', o2', bent', y9, rfl, hj, hp', ho', hb'⟩ hN
    simp only [List.length_cons] at hj
    have hj1 : j ≤ 1 := by omega
    simp [b_law_1, ho']
    have h5 : lim j ≤ 450 ∧ 2 * lim j + 50 ≤ lim (j + 1) := by
      match j, hj1 with
      | 0, _ => exact ⟨by decide, by decide⟩
      | 1, _ => exact ⟨by decide, by decide⟩
    refine ⟨n + 10 * j, bent', oddL, pen', rfl, hp', by omega, by omega, by decide, by decide +kernel, fun t' pen2 ht' hp2 => ?_⟩
    simp
    exact hN _ ⟨j + 1, pen2, _, t', _, rfl, by omega, by rw [show n + 10 * (j + 1) = n + 10 * j + 10 by omega]; exact hp2, (by simp), by omega⟩
  · rintro _ ⟨j, pen', o2', bent', y9, rfl, hj, ⟨c, tu, le, q1, q2, q3, q4⟩, ho', hb'⟩
    refine hM _ _ _ _ ⟨c, tu, le, q1, q2, by simp at hj; omega, q4⟩ ho' ?_
    match j, hj, hb' with
    | 0, _, h => exact Nat.le_trans h (by decide)
    | 1, _, h => exact Nat.le_trans h (by decide)
    | j + 2, _, h => exact h
end
end K01
set_option Elab.async false
set_option linter.all false
set_option autoImplicit false
set_option maxRecDepth 100000
set_option maxHeartbeats 4000000
namespace K01
open PySem PySem.Spec PySem.Calls L2 VL
open PyProof.Rows hiding St
section
variable {K : PySem.W.Frag}
theorem law_loop2 (hf : PySem.W.notFirst K (He.ga K "Scene") (.ref (He.ga K "Scene")) = true) {text : Str} {o6 : T} {x0 x1 x2 x3 x4 x7 x8 x9 x10 x11 x12 x13 x14 x15 : Option T} {M : VEnds} (os : List Str) (hl : ∀ z ∈ os, z.length ≤ 1000) (ho : o6.toD = scO K text) (ht : (readF text).1 = 0)
    (hM : ∀ o6' x10 x11 x12 x13 x14 x15, o6'.toD = scO K text → M.nx [x0, x1, x2, x3, x4, some (.frz (.str text)), some o6', x7, x8, x9, x10, x11, x12, x13, x14, x15]) :
    forL (tN 10) (b_law_2 K) M (os.map D.str) [x0, x1, x2, x3, x4, some (.frz (.str text)), some o6, x7, x8, x9, x10, x11, x12, x13, x14, x15] := by
  refine forL_inv (fun ds Γ => ∃ os o6' x10 x11 x12 x13 x14 x15, ds = List.map D.str os ∧ Γ = [x0, x1, x2, x3, x4, some (.frz (.str text)), some o6', x7, x8, x9, x10, x11, x12, x13, x14, x15] ∧ (∀ z ∈ os, z.length ≤ 1000) ∧ o6'.toD = scO K text) ?_ ?_ _ _ ⟨os, o6, x10, x11, x12, x13, x14, x15, rfl, rfl, hl, ho⟩
  · rintro d ds _ N ⟨os, o6', x10, x11, x12, x13, x14, x15, e1, rfl, hz, ho'⟩ hN
    cases os with
    | nil => cases e1
    | cons t os =>
      cases e1
      have htl := hz t List.mem_cons_self
      have hb : t.length ≤ big := by unfold big; omega
      obtain ⟨p, hp, hs⟩ := told_sh (t := t) (by omega)
      by_cases h0 : (readF t).1 = 0
      · have hp2 : (D.tup (shD t (readF t).2.rows (readF t).2.marks (readF t).2.lots)).py = some p := by rw [← hp]; unfold toldD; rw [if_pos h0]
        simp [b_law_2, sp__law_read, sp__law_told, hb, hp, hs, h0]
        refine ⟨p, hp2, hs, ?_⟩
        rw [if_pos rfl]
        refine ⟨t, rfl, hb, fun _ => ?_, fun h => absurd h0 h⟩
        refine ⟨rfl, _, _, rfl, ?_⟩
        simp [ho']
        have own : ∀ (a b : Str) (R : T → Prop), R (.frz (.bl (decide (a = b)))) → oOwn K [He.ga K "Scene"] (sp_Scene_eq K) (scO K a) (scO K b) R := fun a b R h =>
          ⟨_, _, _, _, (by unfold scO; simp only [T.toD]; rfl), (by unfold scO; simp only [T.toD]; rfl), List.mem_singleton.2 rfl, hf, a, b, rfl, _, rfl, h⟩
        have ownNe : ∀ (a b : Str) (R : T → Prop), R (.frz (.bl (!decide (a = b)))) → oOwnNe K [He.ga K "Scene"] (sp_Scene_eq K) (scO K a) (scO K b) R := fun a b R h =>
          ⟨_, _, _, _, (by unfold scO; simp only [T.toD]; rfl), (by unfold scO; simp only [T.toD]; rfl), List.mem_singleton.2 rfl, hf, a, b, rfl, _, rfl, h⟩
        refine own t text _ ?_
        refine ⟨t, rfl, hb, fun _ => ?_, fun h => absurd h0 h⟩
        refine ⟨rfl, _, _, rfl, ?_⟩
        refine ownNe text t _ ?_
        simp
        rw [show decide (text = t) = decide (t = text) from by simp [eq_comm]]
        have q : ∀ c : Bool, Eqb (.lst [.bl c, .bl !c]) ∧ eqD (.lst [.bl c, .bl !c]) (.lst [.bl c, .bl !c]) = true := fun c => by
          cases c <;> exact ⟨⟨_, rfl, by decide⟩, rfl⟩
        refine ⟨(q _).1, (q _).1, ?_⟩
        rw [(q _).2]
        exact hN _ ⟨os, _, _, _, _, _, _, _, rfl, rfl, fun z h => hz z (List.mem_cons_of_mem _ h), by simp⟩
      · have hp2 : (D.int (readF t).1).py = some p := by rw [← hp]; unfold toldD; rw [if_neg h0]
        have h1 : 0 < (readF t).1 := by omega
        simp [b_law_2, sp__law_read, sp__law_told, hb, hp, hs, h0, h1, hp2]
        exact hN _ ⟨os, o6', _, _, _, _, _, _, rfl, rfl, fun z h => hz z (List.mem_cons_of_mem _ h), ho'⟩
  · rintro _ ⟨os, o6', x10, x11, x12, x13, x14, x15, e1, rfl, hz, ho'⟩
    cases os with
    | cons t os => cases e1
    | nil => exact hM _ _ _ _ _ _ _ ho'
end
end K01
set_option Elab.async false
set_option linter.all false
set_option autoImplicit false
set_option maxRecDepth 100000
set_option maxHeartbeats 4000000
namespace K01
open PySem PySem.Spec PySem.Calls L2 VL
open PyProof.Rows hiding St
section
variable {K : PySem.W.Frag}
theorem law_loop3 (hf : PySem.W.notFirst K (He.ga K "Scene") (.ref (He.ga K "Scene")) = true) {pen o2 : T} {x0 x3 x4 x5 x6 x7 x8 x9 x10 x11 x12 x13 x14 x15 : Option T} {M : VEnds} (ns : List D) (hl : ns.length ≤ 10) (ho : o2.toD = dStrs oddL) (hp : penOk 0 pen)
    (hM : ∀ Γ, M.nx Γ) :
    forL (tN 3) (b_law_3 K) M ns [x0, some pen, some o2, x3, x4, x5, x6, x7, x8, x9, x10, x11, x12, x13, x14, x15] := by
  refine forL_inv (fun ds Γ => ∃ n pen' o2' x3 x4 x5 x6 x7 x8 x9 x10 x11 x12 x13 x14 x15, Γ = [x0, some pen', some o2', x3, x4, x5, x6, x7, x8, x9, x10, x11, x12, x13, x14, x15] ∧ n + 35 * ds.length ≤ 350 ∧ penOk n pen' ∧ o2'.toD = dStrs oddL) ?_ ?_ _ _ ⟨0, pen, o2, x3, x4, x5, x6, x7, x8, x9, x10, x11, x12, x13, x14, x15, rfl, by omega, hp, ho⟩
  · rintro d ds _ N ⟨n, pen', o2', x3, x4, x5, x6, x7, x8, x9, x10, x11, x12, x13, x14, x15, rfl, hn, hp', ho'⟩ hN
    simp only [List.length_cons] at hn
    have hmost : 350 < most := by decide
    simp [b_law_3]
    refine ⟨n, pen', rfl, hp', by omega, fun rs ms b pen2 ok hp2 => ?_⟩
    simp
    refine ⟨rs, ms, b, rfl, ok, ?_⟩
    have hrt := read_text ok b
    have hlen : (textT rs ms b).length ≤ 200 := by
      have h1 := lines_len ok b
      have h2 := join_le1 nl (linesT rs ms b) nl1
      unfold wt at h2
      unfold textT
      omega
    simp
    generalize textT rs ms b = text at *
    refine ⟨text, rfl, by unfold big; omega, fun _ => ?_, fun h => absurd (by rw [hrt]) h⟩
    refine ⟨rfl, _, _, rfl, ?_⟩
    have hsc : (T.bo (He.ga K "Scene") (flds text)).toD = scO K text := rfl
    have hm : He.ga K "Scene" ∈ [He.ga K "Scene"] := List.mem_singleton.2 rfl
    have hwr : wt rs + wt ms ≤ 65 := by have := read_wt text; rw [hrt] at this; exact this
    have hsh : ShOk (.list (shP text rs ms b)) := shOk_l (by omega)
    have hpy : (D.lst (shD text rs ms b)).py = some (.list (shP text rs ms b)) := by simp only [D.py, pys_sh]
    have hfl : flds text = ([(("text" : Str), T.frz (.str text)), ("rows", .frz (dTups rs)), ("marks", .frz (dTups ms)), ("has_lots", .frz (.bl b))] : List (Str × T)) := by unfold flds; rw [hrt]
    simp
    generalize hX : (T.bo (He.ga K "Scene") (flds text)) = X at *
    have fl : ∀ (R : D → D → D → D → Prop), R (.str text) (dTups rs) (dTups ms) (.bl b) → X.fld [He.ga K "Scene"] "text" fun a => X.fld [He.ga K "Scene"] "rows" fun b => X.fld [He.ga K "Scene"] "marks" fun c => X.fld [He.ga K "Scene"] "has_lots" fun d => R a b c d := by
      intro R h
      rw [← hX, hfl]
      exact ⟨hm, hm, hm, hm, h⟩
    refine fl _ ⟨_, hpy, hsh, _, rfl, _, rfl, _, rfl, _, hpy, hsh, ?_⟩
    rw [if_pos rfl]
    refine ⟨n + 14, 2, pen2, rfl, hp2, by omega, by omega, by omega, fun r pen3 r0 r1 hp3 => ?_⟩
    simp
    refine ⟨by omega, by omega, ?_⟩
    refine law_loop1 (n := n + 15) _ (by simp [rngD]; omega) ho' hp3 (by omega) hlen (fun pen4 o4 bent y9 hp4 ho4 hb4 => ?_)
    have z1 : ("\n" : Str).length = 1 := by decide +kernel
    have z2 : ("\nlots" : Str).length = 5 := by decide +kernel
    have z3 : ("\nmark q" : Str).length = 7 := by decide +kernel
    have z4 : ("row zz\n" : Str).length = 7 := by decide +kernel
    have z5 : ("" : Str).length = 0 := by decide +kernel
    have z6 : (Txt.mul ("q" : Str) 11).length = 11 := by decide +kernel
    have hsl : 100000 ≤ sizeLine := by decide
    simp
    rw [z1, z2, z3, z4, z6, Str.length_append, z3]
    refine ⟨by omega, by omega, by omega, ⟨by decide, by decide⟩, by decide +kernel, by omega, by omega, ?_⟩
    refine law_loop2 hf [bent, text ++ "\n", text ++ "\nlots", text ++ "\nmark q" ++ Txt.mul "q" 11, "row zz\n" ++ text, ""] (fun z hz => ?_) hsc (by rw [hrt]) (fun o6' x10 x11 x12 x13 x14 x15 h6 => ?_)
    · simp only [List.mem_cons, List.not_mem_nil, or_false] at hz
      rcases hz with rfl | rfl | rfl | rfl | rfl | rfl
      · omega
      · rw [Str.length_append, z1]; omega
      · rw [Str.length_append, z2]; omega
      · rw [Str.length_append, Str.length_append, z3, z6]; omega
      · rw [Str.length_append, z4]; omega
      · rw [z5]; omega
    · exact hN _ ⟨n + 35, pen4, o4, _, _, _, _, _, _, _, _, _, _, _, _, _, rfl, by omega, hp4, ho4⟩
  · rintro _ _
    exact hM _
end
end K01
set_option Elab.async false
set_option linter.all false
set_option autoImplicit false
set_option maxRecDepth 100000
set_option maxHeartbeats 4000000
namespace K01
open PySem PySem.Spec PySem.Calls L2 VL
open PyProof.Rows hiding St
section
variable {K : PySem.W.Frag} (ts : List T) (R : T → Sl → Prop) (XR : XRl)
theorem plain_law (hf : PySem.W.notFirst K (He.ga K "Scene") (.ref (He.ga K "Scene")) = true) (h : sp_law K ts R XR) : m_law K (begin_ N_law ts) (dEnds 0 P_law.length R XR) := by
  obtain ⟨ns, rfl, k⟩ := h
  simp [m_law, begin_, N_law, dEnds, fin, sp__law_begun_pen]
  intro pen hp
  refine ⟨⟨by decide, by decide⟩, by decide +kernel, ⟨by decide, by decide⟩, by decide +kernel, ?_⟩
  have e : (T.bl [D.str "row", .str "mark", .str "lots", .str "lot", .str "", .str "A", .str "x1", .str "it", .str (Txt.mul "q" 12), .str (Txt.mul "q" 13), .str "row q", .str "z"]).toD = dStrs oddL := by
    have q12 : Txt.mul "q" 12 = ("qqqqqqqqqqqq" : Str) := by decide +kernel
    have q13 : Txt.mul "q" 13 = ("qqqqqqqqqqqqq" : Str) := by decide +kernel
    rw [q12, q13]
    simp [oddL]
  exact law_loop3 hf (rngD 0 10) (by decide) e hp (fun Γ => k _)
end
end K01
set_option Elab.async false
set_option linter.all false
set_option autoImplicit false
set_option maxRecDepth 100000
set_option maxHeartbeats 4000000
namespace K01
open PySem PySem.Spec PySem.Calls L2 VL
open PyProof.Rows hiding St
/-- what the plain laws ask besides -/
structure Gx (K : PySem.W.Frag) : Prop where
  ins : InsC K (He.ga K "Scene")
  kit : PySem.W.kitOne K (.ref (He.ga K "Scene")) (.ref (He.ga K "Scene")) = some true
  nf : PySem.W.notFirst K (He.ga K "Scene") (.ref (He.ga K "Scene")) = true
  tf : TFx K
section
variable {P : Program} {w : World} {K : PySem.W.Frag} {mg : Str → Option Value} {base : Heap}
theorem fg_lines_of (fx : Fx K mg) (gx : Gx K) {fd : FuncData} (F : FunD K "lines_of" "lines_of" (defArgs s_lines_of) (defBody s_lines_of) (defScope s_lines_of) [] [] (He.fAd K ("lines_of", none)) fd) : FnG P w K mg base 1 (He.fAd K ("lines_of", none)) fd P_lines_of (lift K P_lines_of.length (sp_lines_of K)) :=
  vfn 0 F sc_lines_of (by decide) (fun _ _ _ _ _ _ hr tk hpo => ⟨_, v_lines_of fx  hr tk hpo, fun ts R XR h _ => plain_lines_of ts R XR  h⟩)
theorem ok_lines_of (fx : Fx K mg) (gx : Gx K) {fd : FuncData} (F : FunD K "lines_of" "lines_of" (defArgs s_lines_of) (defBody s_lines_of) (defScope s_lines_of) [] [] (He.fAd K ("lines_of", none)) fd) : OkF P w K mg base 1 (He.fAd K ("lines_of", none)) P_lines_of (sp_lines_of K) :=
  ⟨fd, fg_lines_of fx gx  F, F.bindsN fun _ _ _ _ _ _ us hl => match us, hl with | [_], _ => rfl⟩
theorem fg_words_of (fx : Fx K mg) (gx : Gx K) {fd : FuncData} (F : FunD K "words_of" "words_of" (defArgs s_words_of) (defBody s_words_of) (defScope s_words_of) [] [] (He.fAd K ("words_of", none)) fd) : FnG P w K mg base 1 (He.fAd K ("words_of", none)) fd P_words_of (lift K P_words_of.length (sp_words_of K)) :=
  vfn 0 F sc_words_of (by decide) (fun _ _ _ _ _ _ hr tk hpo => ⟨_, v_words_of fx  hr tk hpo, fun ts R XR h _ => plain_words_of ts R XR  h⟩)
theorem ok_words_of (fx : Fx K mg) (gx : Gx K) {fd : FuncData} (F : FunD K "words_of" "words_of" (defArgs s_words_of) (defBody s_words_of) (defScope s_words_of) [] [] (He.fAd K ("words_of", none)) fd) : OkF P w K mg base 1 (He.fAd K ("words_of", none)) P_words_of (sp_words_of K) :=
  ⟨fd, fg_words_of fx gx  F, F.bindsN fun _ _ _ _ _ _ us hl => match us, hl with | [_], _ => rfl⟩
theorem fg_is_name (fx : Fx K mg) (gx : Gx K) {fd : FuncData} (F : FunD K "is_name" "is_name" (defArgs s_is_name) (defBody s_is_name) (defScope s_is_name) [] [] (He.fAd K ("is_name", none)) fd) : FnG P w K mg base 1 (He.fAd K ("is_name", none)) fd P_is_name (lift K P_is_name.length (sp_is_name K)) :=
  vfn 0 F sc_is_name (by decide) (fun _ _ _ _ _ _ hr tk hpo => ⟨_, v_is_name fx  hr tk hpo, fun ts R XR h _ => plain_is_name ts R XR  h⟩)
theorem ok_is_name (fx : Fx K mg) (gx : Gx K) {fd : FuncData} (F : FunD K "is_name" "is_name" (defArgs s_is_name) (defBody s_is_name) (defScope s_is_name) [] [] (He.fAd K ("is_name", none)) fd) : OkF P w K mg base 1 (He.fAd K ("is_name", none)) P_is_name (sp_is_name K) :=
  ⟨fd, fg_is_name fx gx  F, F.bindsN fun _ _ _ _ _ _ us hl => match us, hl with | [_], _ => rfl⟩
theorem fg__law_begun_pen (fx : Fx K mg) (gx : Gx K) {fd : FuncData} (F : FunD K "_law_begun_pen" "_law_begun_pen" (defArgs s__law_begun_pen) (defBody s__law_begun_pen) (defScope s__law_begun_pen) [] [] (He.fAd K ("_law_begun_pen", none)) fd) : FnG P w K mg base 1 (He.fAd K ("_law_begun_pen", none)) fd P__law_begun_pen (lift K P__law_begun_pen.length (sp__law_begun_pen K)) :=
  vfn 0 F sc__law_begun_pen (by decide) (fun _ _ _ _ _ _ hr tk hpo => ⟨_, v__law_begun_pen fx  hr tk hpo, fun ts R XR h _ => plain__law_begun_pen ts R XR  h⟩)
theorem ok__law_begun_pen (fx : Fx K mg) (gx : Gx K) {fd : FuncData} (F : FunD K "_law_begun_pen" "_law_begun_pen" (defArgs s__law_begun_pen) (defBody s__law_begun_pen) (defScope s__law_begun_pen) [] [] (He.fAd K ("_law_begun_pen", none)) fd) : OkF P w K mg base 1 (He.fAd K ("_law_begun_pen", none)) P__law_begun_pen (sp__law_begun_pen K) :=
  ⟨fd, fg__law_begun_pen fx gx  F, F.bindsN fun _ _ _ _ _ _ us hl => match us, hl with | [_], _ => rfl⟩
theorem fg__law_draw (fx : Fx K mg) (gx : Gx K) {fd : FuncData} (F : FunD K "_law_draw" "_law_draw" (defArgs s__law_draw) (defBody s__law_draw) (defScope s__law_draw) [] [] (He.fAd K ("_law_draw", none)) fd) : FnG P w K mg base 1 (He.fAd K ("_law_draw", none)) fd P__law_draw (lift K P__law_draw.length (sp__law_draw K)) :=
  vfn 1 F sc__law_draw (by decide) (fun _ _ _ _ _ _ hr tk hpo => ⟨_, v__law_draw fx  hr tk hpo, fun ts R XR h _ => plain__law_draw ts R XR  h⟩)
theorem ok__law_draw (fx : Fx K mg) (gx : Gx K) {fd : FuncData} (F : FunD K "_law_draw" "_law_draw" (defArgs s__law_draw) (defBody s__law_draw) (defScope s__law_draw) [] [] (He.fAd K ("_law_draw", none)) fd) : OkF P w K mg base 1 (He.fAd K ("_law_draw", none)) P__law_draw (sp__law_draw K) :=
  ⟨fd, fg__law_draw fx gx  F, F.bindsN fun _ _ _ _ _ _ us hl => match us, hl with | [_, _], _ => rfl⟩
theorem fg__law_pick (fx : Fx K mg) (gx : Gx K) (o__law_draw : OkF P w K mg base 1 (He.fAd K ("_law_draw", none)) P__law_draw (sp__law_draw K)) {fd : FuncData} (F : FunD K "_law_pick" "_law_pick" (defArgs s__law_pick) (defBody s__law_pick) (defScope s__law_pick) [] [] (He.fAd K ("_law_pick", none)) fd) : FnG P w K mg base 2 (He.fAd K ("_law_pick", none)) fd P__law_pick (lift K P__law_pick.length (sp__law_pick K)) :=
  vfn 1 F sc__law_pick (by decide) (fun _ _ _ _ _ _ hr tk hpo => ⟨_, v__law_pick fx o__law_draw hr tk hpo, fun ts R XR h _ => plain__law_pick ts R XR  h⟩)
theorem ok__law_pick (fx : Fx K mg) (gx : Gx K) (o__law_draw : OkF P w K mg base 1 (He.fAd K ("_law_draw", none)) P__law_draw (sp__law_draw K)) {fd : FuncData} (F : FunD K "_law_pick" "_law_pick" (defArgs s__law_pick) (defBody s__law_pick) (defScope s__law_pick) [] [] (He.fAd K ("_law_pick", none)) fd) : OkF P w K mg base 2 (He.fAd K ("_law_pick", none)) P__law_pick (sp__law_pick K) :=
  ⟨fd, fg__law_pick fx gx o__law_draw F, F.bindsN fun _ _ _ _ _ _ us hl => match us, hl with | [_, _], _ => rfl⟩
theorem fg__law_shuffled (fx : Fx K mg) (gx : Gx K) (o__law_draw : OkF P w K mg base 1 (He.fAd K ("_law_draw", none)) P__law_draw (sp__law_draw K)) {fd : FuncData} (F : FunD K "_law_shuffled" "_law_shuffled" (defArgs s__law_shuffled) (defBody s__law_shuffled) (defScope s__law_shuffled) [] [] (He.fAd K ("_law_shuffled", none)) fd) : FnG P w K mg base 2 (He.fAd K ("_law_shuffled", none)) fd P__law_shuffled (lift K P__law_shuffled.length (sp__law_shuffled K)) :=
  vfn 1 F sc__law_shuffled (by decide) (fun _ _ _ _ _ _ hr tk hpo => ⟨_, v__law_shuffled fx o__law_draw hr tk hpo, fun ts R XR h _ => plain__law_shuffled ts R XR  h⟩)
theorem ok__law_shuffled (fx : Fx K mg) (gx : Gx K) (o__law_draw : OkF P w K mg base 1 (He.fAd K ("_law_draw", none)) P__law_draw (sp__law_draw K)) {fd : FuncData} (F : FunD K "_law_shuffled" "_law_shuffled" (defArgs s__law_shuffled) (defBody s__law_shuffled) (defScope s__law_shuffled) [] [] (He.fAd K ("_law_shuffled", none)) fd) : OkF P w K mg base 2 (He.fAd K ("_law_shuffled", none)) P__law_shuffled (sp__law_shuffled K) :=
  ⟨fd, fg__law_shuffled fx gx o__law_draw F, F.bindsN fun _ _ _ _ _ _ us hl => match us, hl with | [_, _], _ => rfl⟩
theorem fg__law_barred (fx : Fx K mg) (gx : Gx K) {fd : FuncData} (F : FunD K "_law_barred" "_law_barred" (defArgs s__law_barred) (defBody s__law_barred) (defScope s__law_barred) [] [] (He.fAd K ("_law_barred", none)) fd) : FnG P w K mg base 1 (He.fAd K ("_law_barred", none)) fd P__law_barred (lift K P__law_barred.length (sp__law_barred K)) :=
  vfn 0 F sc__law_barred (by decide) (fun _ _ _ _ _ _ hr tk hpo => ⟨_, v__law_barred fx  hr tk hpo, fun ts R XR h _ => plain__law_barred ts R XR  h⟩)
theorem ok__law_barred (fx : Fx K mg) (gx : Gx K) {fd : FuncData} (F : FunD K "_law_barred" "_law_barred" (defArgs s__law_barred) (defBody s__law_barred) (defScope s__law_barred) [] [] (He.fAd K ("_law_barred", none)) fd) : OkF P w K mg base 1 (He.fAd K ("_law_barred", none)) P__law_barred (sp__law_barred K) :=
  ⟨fd, fg__law_barred fx gx  F, F.bindsN fun _ _ _ _ _ _ us hl => match us, hl with | [], _ => rfl⟩
theorem fg__law_new_names (fx : Fx K mg) (gx : Gx K) (o__law_shuffled : OkF P w K mg base 2 (He.fAd K ("_law_shuffled", none)) P__law_shuffled (sp__law_shuffled K)) {fd : FuncData} (F : FunD K "_law_new_names" "_law_new_names" (defArgs s__law_new_names) (defBody s__law_new_names) (defScope s__law_new_names) [] [] (He.fAd K ("_law_new_names", none)) fd) : FnG P w K mg base 3 (He.fAd K ("_law_new_names", none)) fd P__law_new_names (lift K P__law_new_names.length (sp__law_new_names K)) :=
  vfn 1 F sc__law_new_names (by decide) (fun _ _ _ _ _ _ hr tk hpo => ⟨_, v__law_new_names fx o__law_shuffled hr tk hpo, fun ts R XR h _ => plain__law_new_names ts R XR  h⟩)
theorem ok__law_new_names (fx : Fx K mg) (gx : Gx K) (o__law_shuffled : OkF P w K mg base 2 (He.fAd K ("_law_shuffled", none)) P__law_shuffled (sp__law_shuffled K)) {fd : FuncData} (F : FunD K "_law_new_names" "_law_new_names" (defArgs s__law_new_names) (defBody s__law_new_names) (defScope s__law_new_names) [] [] (He.fAd K ("_law_new_names", none)) fd) : OkF P w K mg base 3 (He.fAd K ("_law_new_names", none)) P__law_new_names (sp__law_new_names K) :=
  ⟨fd, fg__law_new_names fx gx o__law_shuffled F, F.bindsN fun _ _ _ _ _ _ us hl => match us, hl with | [_, _], _ => rfl⟩
theorem fg__law_new_scene (fx : Fx K mg) (gx : Gx K) (o__law_draw : OkF P w K mg base 1 (He.fAd K ("_law_draw", none)) P__law_draw (sp__law_draw K)) (o__law_new_names : OkF P w K mg base 3 (He.fAd K ("_law_new_names", none)) P__law_new_names (sp__law_new_names K)) {fd : FuncData} (F : FunD K "_law_new_scene" "_law_new_scene" (defArgs s__law_new_scene) (defBody s__law_new_scene) (defScope s__law_new_scene) [] [] (He.fAd K ("_law_new_scene", none)) fd) : FnG P w K mg base 4 (He.fAd K ("_law_new_scene", none)) fd P__law_new_scene (lift K P__law_new_scene.length (sp__law_new_scene K)) :=
  vfn 1 F sc__law_new_scene (by decide) (fun _ _ _ _ _ _ hr tk hpo => ⟨_, v__law_new_scene fx o__law_draw o__law_new_names hr tk hpo, fun ts R XR h _ => plain__law_new_scene ts R XR  h⟩)
theorem ok__law_new_scene (fx : Fx K mg) (gx : Gx K) (o__law_draw : OkF P w K mg base 1 (He.fAd K ("_law_draw", none)) P__law_draw (sp__law_draw K)) (o__law_new_names : OkF P w K mg base 3 (He.fAd K ("_law_new_names", none)) P__law_new_names (sp__law_new_names K)) {fd : FuncData} (F : FunD K "_law_new_scene" "_law_new_scene" (defArgs s__law_new_scene) (defBody s__law_new_scene) (defScope s__law_new_scene) [] [] (He.fAd K ("_law_new_scene", none)) fd) : OkF P w K mg base 4 (He.fAd K ("_law_new_scene", none)) P__law_new_scene (sp__law_new_scene K) :=
  ⟨fd, fg__law_new_scene fx gx o__law_draw o__law_new_names F, F.bindsN fun _ _ _ _ _ _ us hl => match us, hl with | [_, _, _, _], _ => rfl⟩
theorem fg__law_scene_text (fx : Fx K mg) (gx : Gx K) {fd : FuncData} (F : FunD K "_law_scene_text" "_law_scene_text" (defArgs s__law_scene_text) (defBody s__law_scene_text) (defScope s__law_scene_text) [] [] (He.fAd K ("_law_scene_text", none)) fd) : FnG P w K mg base 1 (He.fAd K ("_law_scene_text", none)) fd P__law_scene_text (lift K P__law_scene_text.length (sp__law_scene_text K)) :=
  vfn 0 F sc__law_scene_text (by decide) (fun _ _ _ _ _ _ hr tk hpo => ⟨_, v__law_scene_text fx  hr tk hpo, fun ts R XR h _ => plain__law_scene_text ts R XR  h⟩)
theorem ok__law_scene_text (fx : Fx K mg) (gx : Gx K) {fd : FuncData} (F : FunD K "_law_scene_text" "_law_scene_text" (defArgs s__law_scene_text) (defBody s__law_scene_text) (defScope s__law_scene_text) [] [] (He.fAd K ("_law_scene_text", none)) fd) : OkF P w K mg base 1 (He.fAd K ("_law_scene_text", none)) P__law_scene_text (sp__law_scene_text K) :=
  ⟨fd, fg__law_scene_text fx gx  F, F.bindsN fun _ _ _ _ _ _ us hl => match us, hl with | [_], _ => rfl⟩
theorem fg__law_is_name (fx : Fx K mg) (gx : Gx K) (o__law_barred : OkF P w K mg base 1 (He.fAd K ("_law_barred", none)) P__law_barred (sp__law_barred K)) {fd : FuncData} (F : FunD K "_law_is_name" "_law_is_name" (defArgs s__law_is_name) (defBody s__law_is_name) (defScope s__law_is_name) [] [] (He.fAd K ("_law_is_name", none)) fd) : FnG P w K mg base 2 (He.fAd K ("_law_is_name", none)) fd P__law_is_name (lift K P__law_is_name.length (sp__law_is_name K)) :=
  vfn 0 F sc__law_is_name (by decide) (fun _ _ _ _ _ _ hr tk hpo => ⟨_, v__law_is_name fx o__law_barred hr tk hpo, fun ts R XR h _ => plain__law_is_name ts R XR  h⟩)
theorem ok__law_is_name (fx : Fx K mg) (gx : Gx K) (o__law_barred : OkF P w K mg base 1 (He.fAd K ("_law_barred", none)) P__law_barred (sp__law_barred K)) {fd : FuncData} (F : FunD K "_law_is_name" "_law_is_name" (defArgs s__law_is_name) (defBody s__law_is_name) (defScope s__law_is_name) [] [] (He.fAd K ("_law_is_name", none)) fd) : OkF P w K mg base 2 (He.fAd K ("_law_is_name", none)) P__law_is_name (sp__law_is_name K) :=
  ⟨fd, fg__law_is_name fx gx o__law_barred F, F.bindsN fun _ _ _ _ _ _ us hl => match us, hl with | [_], _ => rfl⟩
theorem fg__law_bent (fx : Fx K mg) (gx : Gx K) (o__law_draw : OkF P w K mg base 1 (He.fAd K ("_law_draw", none)) P__law_draw (sp__law_draw K)) (o__law_pick : OkF P w K mg base 2 (He.fAd K ("_law_pick", none)) P__law_pick (sp__law_pick K)) {fd : FuncData} (F : FunD K "_law_bent" "_law_bent" (defArgs s__law_bent) (defBody s__law_bent) (defScope s__law_bent) [] [] (He.fAd K ("_law_bent", none)) fd) : FnG P w K mg base 3 (He.fAd K ("_law_bent", none)) fd P__law_bent (lift K P__law_bent.length (sp__law_bent K)) :=
  vfn 1 F sc__law_bent (by decide) (fun _ _ _ _ _ _ hr tk hpo => ⟨_, v__law_bent fx o__law_draw o__law_pick hr tk hpo, fun ts R XR h _ => plain__law_bent ts R XR  h⟩)
theorem ok__law_bent (fx : Fx K mg) (gx : Gx K) (o__law_draw : OkF P w K mg base 1 (He.fAd K ("_law_draw", none)) P__law_draw (sp__law_draw K)) (o__law_pick : OkF P w K mg base 2 (He.fAd K ("_law_pick", none)) P__law_pick (sp__law_pick K)) {fd : FuncData} (F : FunD K "_law_bent" "_law_bent" (defArgs s__law_bent) (defBody s__law_bent) (defScope s__law_bent) [] [] (He.fAd K ("_law_bent", none)) fd) : OkF P w K mg base 3 (He.fAd K ("_law_bent", none)) P__law_bent (sp__law_bent K) :=
  ⟨fd, fg__law_bent fx gx o__law_draw o__law_pick F, F.bindsN fun _ _ _ _ _ _ us hl => match us, hl with | [_, _, _], _ => rfl⟩
theorem fg__law_read (fx : Fx K mg) (gx : Gx K) (o__law_is_name : OkF P w K mg base 2 (He.fAd K ("_law_is_name", none)) P__law_is_name (sp__law_is_name K)) {fd : FuncData} (F : FunD K "_law_read" "_law_read" (defArgs s__law_read) (defBody s__law_read) (defScope s__law_read) [] [] (He.fAd K ("_law_read", none)) fd) : FnG P w K mg base 3 (He.fAd K ("_law_read", none)) fd P__law_read (lift K P__law_read.length (sp__law_read K)) :=
  vfn 0 F sc__law_read (by decide) (fun _ _ _ _ _ _ hr tk hpo => ⟨_, v__law_read fx o__law_is_name hr tk hpo, fun ts R XR h _ => plain__law_read ts R XR  h⟩)
theorem ok__law_read (fx : Fx K mg) (gx : Gx K) (o__law_is_name : OkF P w K mg base 2 (He.fAd K ("_law_is_name", none)) P__law_is_name (sp__law_is_name K)) {fd : FuncData} (F : FunD K "_law_read" "_law_read" (defArgs s__law_read) (defBody s__law_read) (defScope s__law_read) [] [] (He.fAd K ("_law_read", none)) fd) : OkF P w K mg base 3 (He.fAd K ("_law_read", none)) P__law_read (sp__law_read K) :=
  ⟨fd, fg__law_read fx gx o__law_is_name F, F.bindsN fun _ _ _ _ _ _ us hl => match us, hl with | [_], _ => rfl⟩
theorem fg_Scene_init (fx : Fx K mg) (gx : Gx K) (o_is_name : OkF P w K mg base 1 (He.fAd K ("is_name", none)) P_is_name (sp_is_name K)) (o_lines_of : OkF P w K mg base 1 (He.fAd K ("lines_of", none)) P_lines_of (sp_lines_of K)) (o_words_of : OkF P w K mg base 1 (He.fAd K ("words_of", none)) P_words_of (sp_words_of K)) (o_BadScene : OkE P w K mg base 1 (He.fAd K ("BadScene", some "__init__")) P_BadScene_init 1 (He.ga K "BadScene") ok_BadScene) {fd : FuncData} (F : FunD K "__init__" "Scene.__init__" (defArgs s_Scene_init) (defBody s_Scene_init) (defScope s_Scene_init) [] [] (He.fAd K ("Scene", some "__init__")) fd) : FnG P w K mg base 3 (He.fAd K ("Scene", some "__init__")) fd P_Scene_init (lift K P_Scene_init.length (sp_Scene_init K)) :=
  vfn 1 F sc_Scene_init (by decide) (fun _ _ _ _ _ _ hr tk hpo => ⟨_, v_Scene_init fx o_is_name o_lines_of o_words_of o_BadScene hr tk hpo, fun ts R XR h _ => plain_Scene_init ts R XR  h⟩)
theorem ok_Scene_init (fx : Fx K mg) (gx : Gx K) (o_is_name : OkF P w K mg base 1 (He.fAd K ("is_name", none)) P_is_name (sp_is_name K)) (o_lines_of : OkF P w K mg base 1 (He.fAd K ("lines_of", none)) P_lines_of (sp_lines_of K)) (o_words_of : OkF P w K mg base 1 (He.fAd K ("words_of", none)) P_words_of (sp_words_of K)) (o_BadScene : OkE P w K mg base 1 (He.fAd K ("BadScene", some "__init__")) P_BadScene_init 1 (He.ga K "BadScene") ok_BadScene) {fd : FuncData} (F : FunD K "__init__" "Scene.__init__" (defArgs s_Scene_init) (defBody s_Scene_init) (defScope s_Scene_init) [] [] (He.fAd K ("Scene", some "__init__")) fd) : OkF P w K mg base 3 (He.fAd K ("Scene", some "__init__")) P_Scene_init (sp_Scene_init K) :=
  ⟨fd, fg_Scene_init fx gx o_is_name o_lines_of o_words_of o_BadScene F, F.bindsN fun _ _ _ _ _ _ us hl => match us, hl with | [_, _], _ => rfl⟩
theorem fg__law_told (fx : Fx K mg) (gx : Gx K) (o_Scene_init : OkF P w K mg base 3 (He.fAd K ("Scene", some "__init__")) P_Scene_init (sp_Scene_init K)) {fd : FuncData} (F : FunD K "_law_told" "_law_told" (defArgs s__law_told) (defBody s__law_told) (defScope s__law_told) [] [] (He.fAd K ("_law_told", none)) fd) : FnG P w K mg base 5 (He.fAd K ("_law_told", none)) fd P__law_told (lift K P__law_told.length (sp__law_told K)) :=
  vfn 0 F sc__law_told (by decide) (fun _ _ _ _ _ _ hr tk hpo => ⟨_, v__law_told fx o_Scene_init hr tk hpo, fun ts R XR h _ => plain__law_told ts R XR gx.tf h⟩)
theorem ok__law_told (fx : Fx K mg) (gx : Gx K) (o_Scene_init : OkF P w K mg base 3 (He.fAd K ("Scene", some "__init__")) P_Scene_init (sp_Scene_init K)) {fd : FuncData} (F : FunD K "_law_told" "_law_told" (defArgs s__law_told) (defBody s__law_told) (defScope s__law_told) [] [] (He.fAd K ("_law_told", none)) fd) : OkF P w K mg base 5 (He.fAd K ("_law_told", none)) P__law_told (sp__law_told K) :=
  ⟨fd, fg__law_told fx gx o_Scene_init F, F.bindsN fun _ _ _ _ _ _ us hl => match us, hl with | [_], _ => rfl⟩
theorem fg_Scene_eq (fx : Fx K mg) (gx : Gx K) {fd : FuncData} (F : FunD K "__eq__" "Scene.__eq__" (defArgs s_Scene_eq) (defBody s_Scene_eq) (defScope s_Scene_eq) [] [] (He.fAd K ("Scene", some "__eq__")) fd) : FnG P w K mg base 1 (He.fAd K ("Scene", some "__eq__")) fd P_Scene_eq (lift K P_Scene_eq.length (sp_Scene_eq K)) :=
  vfn 0 F sc_Scene_eq (by decide) (fun _ _ _ _ _ _ hr tk hpo => ⟨_, v_Scene_eq fx  hr tk hpo, fun ts R XR h _ => plain_Scene_eq ts R XR gx.ins gx.kit h⟩)
theorem ok_Scene_eq (fx : Fx K mg) (gx : Gx K) {fd : FuncData} (F : FunD K "__eq__" "Scene.__eq__" (defArgs s_Scene_eq) (defBody s_Scene_eq) (defScope s_Scene_eq) [] [] (He.fAd K ("Scene", some "__eq__")) fd) : OkF P w K mg base 1 (He.fAd K ("Scene", some "__eq__")) P_Scene_eq (sp_Scene_eq K) :=
  ⟨fd, fg_Scene_eq fx gx  F, F.bindsN fun _ _ _ _ _ _ us hl => match us, hl with | [_, _], _ => rfl⟩
theorem fg_law (fx : Fx K mg) (gx : Gx K) (o_Scene_eq : OkF P w K mg base 1 (He.fAd K ("Scene", some "__eq__")) P_Scene_eq (sp_Scene_eq K)) (o__law_begun_pen : OkF P w K mg base 1 (He.fAd K ("_law_begun_pen", none)) P__law_begun_pen (sp__law_begun_pen K)) (o__law_bent : OkF P w K mg base 3 (He.fAd K ("_law_bent", none)) P__law_bent (sp__law_bent K)) (o__law_draw : OkF P w K mg base 1 (He.fAd K ("_law_draw", none)) P__law_draw (sp__law_draw K)) (o__law_new_scene : OkF P w K mg base 4 (He.fAd K ("_law_new_scene", none)) P__law_new_scene (sp__law_new_scene K)) (o__law_read : OkF P w K mg base 3 (He.fAd K ("_law_read", none)) P__law_read (sp__law_read K)) (o__law_scene_text : OkF P w K mg base 1 (He.fAd K ("_law_scene_text", none)) P__law_scene_text (sp__law_scene_text K)) (o__law_told : OkF P w K mg base 5 (He.fAd K ("_law_told", none)) P__law_told (sp__law_told K)) (o_Scene_init : OkF P w K mg base 3 (He.fAd K ("Scene", some "__init__")) P_Scene_init (sp_Scene_init K)) {fd : FuncData} (F : FunD K "law" "law" (defArgs s_law) (defBody s_law) (defScope s_law) [] [] (He.fAd K ("law", none)) fd) : FnG P w K mg base 6 (He.fAd K ("law", none)) fd P_law (lift K P_law.length (sp_law K)) :=
  vfn 0 F sc_law (by decide) (fun _ _ _ _ _ _ hr tk hpo => ⟨_, v_law fx o_Scene_eq o__law_begun_pen o__law_bent o__law_draw o__law_new_scene o__law_read o__law_scene_text o__law_told o_Scene_init hr tk hpo, fun ts R XR h _ => plain_law ts R XR gx.nf h⟩)
theorem ok_law (fx : Fx K mg) (gx : Gx K) (o_Scene_eq : OkF P w K mg base 1 (He.fAd K ("Scene", some "__eq__")) P_Scene_eq (sp_Scene_eq K)) (o__law_begun_pen : OkF P w K mg base 1 (He.fAd K ("_law_begun_pen", none)) P__law_begun_pen (sp__law_begun_pen K)) (o__law_bent : OkF P w K mg base 3 (He.fAd K ("_law_bent", none)) P__law_bent (sp__law_bent K)) (o__law_draw : OkF P w K mg base 1 (He.fAd K ("_law_draw", none)) P__law_draw (sp__law_draw K)) (o__law_new_scene : OkF P w K mg base 4 (He.fAd K ("_law_new_scene", none)) P__law_new_scene (sp__law_new_scene K)) (o__law_read : OkF P w K mg base 3 (He.fAd K ("_law_read", none)) P__law_read (sp__law_read K)) (o__law_scene_text : OkF P w K mg base 1 (He.fAd K ("_law_scene_text", none)) P__law_scene_text (sp__law_scene_text K)) (o__law_told : OkF P w K mg base 5 (He.fAd K ("_law_told", none)) P__law_told (sp__law_told K)) (o_Scene_init : OkF P w K mg base 3 (He.fAd K ("Scene", some "__init__")) P_Scene_init (sp_Scene_init K)) {fd : FuncData} (F : FunD K "law" "law" (defArgs s_law) (defBody s_law) (defScope s_law) [] [] (He.fAd K ("law", none)) fd) : OkF P w K mg base 6 (He.fAd K ("law", none)) P_law (sp_law K) :=
  ⟨fd, fg_law fx gx o_Scene_eq o__law_begun_pen o__law_bent o__law_draw o__law_new_scene o__law_read o__law_scene_text o__law_told o_Scene_init F, F.bindsN fun _ _ _ _ _ _ us hl => match us, hl with | [_], _ => rfl⟩
theorem ok_BadScene_init (hno : PySem.W.findIn K (.ref (He.ga K "BadScene")) "line" = some none) {fd : FuncData} (F : SupF P K mg "BadScene.__init__" (defArgs s_BadScene_init) (defBody s_BadScene_init) (defScope s_BadScene_init) (He.ga K "BadScene") (He.fAd K ("BadScene", some "__init__")) fd) (hp : PlainX "BadScene.__init__" s_BadScene_init fd) : OkE P w K mg base 1 (He.fAd K ("BadScene", some "__init__")) P_BadScene_init 1 (He.ga K "BadScene") ok_BadScene :=
  ⟨fd, oe_BadScene F hno, hp.binds fun _ _ _ _ _ _ _ us hl => match us, hl with | [_, _], _ => rfl⟩
end
end K01
set_option Elab.async false
set_option linter.all false
set_option autoImplicit false
set_option maxRecDepth 100000
set_option maxHeartbeats 0
namespace K01
open PySem PySem.Spec PySem.Calls L2 VL
open PyProof.Rows hiding St
def d_lines_of : He.DefD := ⟨("lines_of", none), "lines_of", "lines_of", defArgs s_lines_of, defBody s_lines_of, defScope s_lines_of, [], []⟩
def d_words_of : He.DefD := ⟨("words_of", none), "words_of", "words_of", defArgs s_words_of, defBody s_words_of, defScope s_words_of, [], []⟩
def d_is_name : He.DefD := ⟨("is_name", none), "is_name", "is_name", defArgs s_is_name, defBody s_is_name, defScope s_is_name, [], []⟩
def d__law_begun_pen : He.DefD := ⟨("_law_begun_pen", none), "_law_begun_pen", "_law_begun_pen", defArgs s__law_begun_pen, defBody s__law_begun_pen, defScope s__law_begun_pen, [], []⟩
def d__law_draw : He.DefD := ⟨("_law_draw", none), "_law_draw", "_law_draw", defArgs s__law_draw, defBody s__law_draw, defScope s__law_draw, [], []⟩
def d__law_pick : He.DefD := ⟨("_law_pick", none), "_law_pick", "_law_pick", defArgs s__law_pick, defBody s__law_pick, defScope s__law_pick, [], []⟩
def d__law_shuffled : He.DefD := ⟨("_law_shuffled", none), "_law_shuffled", "_law_shuffled", defArgs s__law_shuffled, defBody s__law_shuffled, defScope s__law_shuffled, [], []⟩
def d__law_barred : He.DefD := ⟨("_law_barred", none), "_law_barred", "_law_barred", defArgs s__law_barred, defBody s__law_barred, defScope s__law_barred, [], []⟩
def d__law_new_names : He.DefD := ⟨("_law_new_names", none), "_law_new_names", "_law_new_names", defArgs s__law_new_names, defBody s__law_new_names, defScope s__law_new_names, [], []⟩
def d__law_new_scene : He.DefD := ⟨("_law_new_scene", none), "_law_new_scene", "_law_new_scene", defArgs s__law_new_scene, defBody s__law_new_scene, defScope s__law_new_scene, [], []⟩
def d__law_scene_text : He.DefD := ⟨("_law_scene_text", none), "_law_scene_text", "_law_scene_text", defArgs s__law_scene_text, defBody s__law_scene_text, defScope s__law_scene_text, [], []⟩
def d__law_is_name : He.DefD := ⟨("_law_is_name", none), "_law_is_name", "_law_is_name", defArgs s__law_is_name, defBody s__law_is_name, defScope s__law_is_name, [], []⟩
def d__law_bent : He.DefD := ⟨("_law_bent", none), "_law_bent", "_law_bent", defArgs s__law_bent, defBody s__law_bent, defScope s__law_bent, [], []⟩
def d__law_read : He.DefD := ⟨("_law_read", none), "_law_read", "_law_read", defArgs s__law_read, defBody s__law_read, defScope s__law_read, [], []⟩
def d_Scene_init : He.DefD := ⟨("Scene", some "__init__"), "__init__", "Scene.__init__", defArgs s_Scene_init, defBody s_Scene_init, defScope s_Scene_init, [], []⟩
def d__law_told : He.DefD := ⟨("_law_told", none), "_law_told", "_law_told", defArgs s__law_told, defBody s__law_told, defScope s__law_told, [], []⟩
def d_Scene_eq : He.DefD := ⟨("Scene", some "__eq__"), "__eq__", "Scene.__eq__", defArgs s_Scene_eq, defBody s_Scene_eq, defScope s_Scene_eq, [], []⟩
def d_law : He.DefD := ⟨("law", none), "law", "law", defArgs s_law, defBody s_law, defScope s_law, [], []⟩
def fnD : List He.DefD := [d_lines_of, d_words_of, d_is_name, d__law_begun_pen, d__law_draw, d__law_pick, d__law_shuffled, d__law_barred, d__law_new_names, d__law_new_scene, d__law_scene_text, d__law_is_name, d__law_bent, d__law_read, d_Scene_init, d__law_told, d_Scene_eq, d_law]
def fsD : List SupD := [⟨"BadScene", "BadScene.__init__", s_BadScene_init⟩]
def faD : List He.Fa := [.glo "lines_of", .keep "lines_of", .glo "words_of", .keep "words_of", .glo "is_name", .keep "is_name", .glo "_law_begun_pen", .keep "_law_begun_pen", .glo "_law_draw", .keep "_law_draw", .glo "_law_pick", .keep "_law_pick", .glo "_law_shuffled", .keep "_law_shuffled", .glo "_law_barred", .keep "_law_barred", .glo "_law_new_names", .keep "_law_new_names", .glo "_law_new_scene", .keep "_law_new_scene", .glo "_law_scene_text", .keep "_law_scene_text", .glo "_law_is_name", .keep "_law_is_name", .glo "_law_bent", .keep "_law_bent", .glo "_law_read", .keep "_law_read", .glo "_law_told", .keep "_law_told", .glo "law", .keep "law", .glo "SeatError", .glo "BadScene", .glo "Scene", .str "LETTERS" "abcdefghijklmnopqrstuvwxyz", .int "LONGEST" 12, .glo "BARRED", .int "MOST_ROWS" 3, .int "MOST_MARKS" 2] ++ ([.free "ValueError", .free "abs", .free "all", .free "enumerate", .free "int", .free "isinstance", .free "len", .free "list", .free "range", .free "repr", .free "tuple"] : List He.Fa)
def exD (K : PySem.W.Frag) : Bool := xcB K (He.ga K "BadScene") (He.fAd K ("BadScene", some "__init__")) && (mkB K (He.ga K "Scene") (He.fAd K ("Scene", some "__init__")) && (fldB K (He.ga K "Scene") "text" && (fldB K (He.ga K "Scene") "rows" && (fldB K (He.ga K "Scene") "marks" && (fldB K (He.ga K "Scene") "has_lots" && (He.tupB K "BARRED" (z_BARRED.map He.Dv.str) && (ownEqB K (He.ga K "Scene") (He.fAd K ("Scene", some "__eq__")) && (insB K (He.ga K "Scene") && (boolB (PySem.W.kitOne K (.ref (He.ga K "Scene")) (.ref (He.ga K "Scene"))) true && (PySem.W.notFirst K (He.ga K "Scene") (.ref (He.ga K "Scene")) && ((boolB (PySem.W.exmOne K (.ref (He.ga K "BadScene")) (.ref (He.ga K "BadScene"))) true && excB K (He.ga K "BadScene")) && (foundB K (He.ga K "BadScene") "line" none && (boolB (PySem.W.kitOne K (.ref (He.ga K "BadScene")) (.ref (He.ga K "SeatError"))) true && boolB (PySem.W.kitOne K (.ref (He.ga K "BadScene")) (.type "ValueError")) true)))))))))))))
abbrev P0 : Program := PySem.Challenge.pw_seatedtwice_k01_scenes
abbrev SaysX (K : PySem.W.Frag) : Prop := obsX P0.main.file faD fnD fsD exD K = valX fnD fsD
section
variable {w : World} {K : PySem.W.Frag} {mg : Str → Option Value} {base h : Heap}
theorem facts_of (X : K.In h) (G : h.Ns mainGlobals mg) (c : SaysX K) : Fx K mg ∧ Gx K := by
  have z : exD K = true := restX c
  unfold exD at z
  obtain ⟨e1, z⟩ := He.ba z
  obtain ⟨e2, z⟩ := He.ba z
  obtain ⟨e3, z⟩ := He.ba z
  obtain ⟨e4, z⟩ := He.ba z
  obtain ⟨e5, z⟩ := He.ba z
  obtain ⟨e6, z⟩ := He.ba z
  obtain ⟨e7, z⟩ := He.ba z
  obtain ⟨e8, z⟩ := He.ba z
  obtain ⟨e9, z⟩ := He.ba z
  obtain ⟨e10, z⟩ := He.ba z
  obtain ⟨e11, z⟩ := He.ba z
  have e12 := z
  exact ⟨{
    x_BadScene := xcB_ok e1
    g_lines_of := He.glo_ok X G (factX c 0 rfl)
    k_lines_of := He.keep_ok (factX c 1 rfl)
    g_words_of := He.glo_ok X G (factX c 2 rfl)
    k_words_of := He.keep_ok (factX c 3 rfl)
    g_is_name := He.glo_ok X G (factX c 4 rfl)
    k_is_name := He.keep_ok (factX c 5 rfl)
    g__law_begun_pen := He.glo_ok X G (factX c 6 rfl)
    k__law_begun_pen := He.keep_ok (factX c 7 rfl)
    g__law_draw := He.glo_ok X G (factX c 8 rfl)
    k__law_draw := He.keep_ok (factX c 9 rfl)
    g__law_pick := He.glo_ok X G (factX c 10 rfl)
    k__law_pick := He.keep_ok (factX c 11 rfl)
    g__law_shuffled := He.glo_ok X G (factX c 12 rfl)
    k__law_shuffled := He.keep_ok (factX c 13 rfl)
    g__law_barred := He.glo_ok X G (factX c 14 rfl)
    k__law_barred := He.keep_ok (factX c 15 rfl)
    g__law_new_names := He.glo_ok X G (factX c 16 rfl)
    k__law_new_names := He.keep_ok (factX c 17 rfl)
    g__law_new_scene := He.glo_ok X G (factX c 18 rfl)
    k__law_new_scene := He.keep_ok (factX c 19 rfl)
    g__law_scene_text := He.glo_ok X G (factX c 20 rfl)
    k__law_scene_text := He.keep_ok (factX c 21 rfl)
    g__law_is_name := He.glo_ok X G (factX c 22 rfl)
    k__law_is_name := He.keep_ok (factX c 23 rfl)
    g__law_bent := He.glo_ok X G (factX c 24 rfl)
    k__law_bent := He.keep_ok (factX c 25 rfl)
    g__law_read := He.glo_ok X G (factX c 26 rfl)
    k__law_read := He.keep_ok (factX c 27 rfl)
    g__law_told := He.glo_ok X G (factX c 28 rfl)
    k__law_told := He.keep_ok (factX c 29 rfl)
    g_law := He.glo_ok X G (factX c 30 rfl)
    k_law := He.keep_ok (factX c 31 rfl)
    g_SeatError := He.glo_ok X G (factX c 32 rfl)
    g_BadScene := He.glo_ok X G (factX c 33 rfl)
    g_Scene := He.glo_ok X G (factX c 34 rfl)
    m_Scene := mkB_ok e2
    f_Scene_text := fldB_ok e3
    f_Scene_rows := fldB_ok e4
    f_Scene_marks := fldB_ok e5
    f_Scene_has_lots := fldB_ok e6
    c_LETTERS := He.str_ok X G (factX c 35 rfl)
    c_LONGEST := He.int_ok X G (factX c 36 rfl)
    c_BARRED := ⟨He.glo_ok X G (factX c 37 rfl), fun H => by have z := He.tupB_ok e7 H; rw [List.map_map] at z; exact z⟩
    c_MOST_ROWS := He.int_ok X G (factX c 38 rfl)
    c_MOST_MARKS := He.int_ok X G (factX c 39 rfl)
    b_ValueError := He.free_ok X G (factX c 40 rfl)
    b_abs := He.free_ok X G (factX c 41 rfl)
    b_all := He.free_ok X G (factX c 42 rfl)
    b_enumerate := He.free_ok X G (factX c 43 rfl)
    b_int := He.free_ok X G (factX c 44 rfl)
    b_isinstance := He.free_ok X G (factX c 45 rfl)
    b_len := He.free_ok X G (factX c 46 rfl)
    b_list := He.free_ok X G (factX c 47 rfl)
    b_range := He.free_ok X G (factX c 48 rfl)
    b_repr := He.free_ok X G (factX c 49 rfl)
    b_tuple := He.free_ok X G (factX c 50 rfl)
    q_Scene := ownEqB_ok e8 }, {
    ins := insB_ok e9
    kit := of_decide_eq_true e10
    nf := e11
    tf := ⟨of_decide_eq_true (He.ba (He.ba e12).1).1, (excB_ok (He.ba (He.ba e12).1).2).1, (excB_ok (He.ba (He.ba e12).1).2).2, foundB_ok (He.ba (He.ba e12).2).1, of_decide_eq_true (He.ba (He.ba (He.ba e12).2).2).1, of_decide_eq_true (He.ba (He.ba (He.ba e12).2).2).2⟩ }⟩
theorem law_kept (X : K.In h) (G : h.Ns mainGlobals mg) (c : SaysX K) {fd : FuncData} (F : FunD K "law" "law" (defArgs s_law) (defBody s_law) (defScope s_law) [] [] (He.fAd K ("law", none)) fd) : FnG P0 w K mg base 6 (He.fAd K ("law", none)) fd P_law (lift K 1 (sp_law K)) := by
  obtain ⟨fx, gx⟩ := facts_of X G c
  obtain ⟨fd_BadScene_init, F_BadScene_init, p_BadScene_init⟩ := supX (P := P0) c X G rfl 0 rfl
  have o_BadScene : OkE P0 w K mg base 1 (He.fAd K ("BadScene", some "__init__")) P_BadScene_init 1 (He.ga K "BadScene") ok_BadScene := ok_BadScene_init gx.tf.nl F_BadScene_init p_BadScene_init
  obtain ⟨fd_lines_of, F_lines_of⟩ := defX c 0 (d := d_lines_of) rfl
  have o_lines_of : OkF P0 w K mg base 1 (He.fAd K ("lines_of", none)) P_lines_of (sp_lines_of K) := ok_lines_of fx gx  F_lines_of
  obtain ⟨fd_words_of, F_words_of⟩ := defX c 1 (d := d_words_of) rfl
  have o_words_of : OkF P0 w K mg base 1 (He.fAd K ("words_of", none)) P_words_of (sp_words_of K) := ok_words_of fx gx  F_words_of
  obtain ⟨fd_is_name, F_is_name⟩ := defX c 2 (d := d_is_name) rfl
  have o_is_name : OkF P0 w K mg base 1 (He.fAd K ("is_name", none)) P_is_name (sp_is_name K) := ok_is_name fx gx  F_is_name
  obtain ⟨fd__law_begun_pen, F__law_begun_pen⟩ := defX c 3 (d := d__law_begun_pen) rfl
  have o__law_begun_pen : OkF P0 w K mg base 1 (He.fAd K ("_law_begun_pen", none)) P__law_begun_pen (sp__law_begun_pen K) := ok__law_begun_pen fx gx  F__law_begun_pen
  obtain ⟨fd__law_draw, F__law_draw⟩ := defX c 4 (d := d__law_draw) rfl
  have o__law_draw : OkF P0 w K mg base 1 (He.fAd K ("_law_draw", none)) P__law_draw (sp__law_draw K) := ok__law_draw fx gx  F__law_draw
  obtain ⟨fd__law_pick, F__law_pick⟩ := defX c 5 (d := d__law_pick) rfl
  have o__law_pick : OkF P0 w K mg base 2 (He.fAd K ("_law_pick", none)) P__law_pick (sp__law_pick K) := ok__law_pick fx gx o__law_draw F__law_pick
  obtain ⟨fd__law_shuffled, F__law_shuffled⟩ := defX c 6 (d := d__law_shuffled) rfl
  have o__law_shuffled : OkF P0 w K mg base 2 (He.fAd K ("_law_shuffled", none)) P__law_shuffled (sp__law_shuffled K) := ok__law_shuffled fx gx o__law_draw F__law_shuffled
  obtain ⟨fd__law_barred, F__law_barred⟩ := defX c 7 (d := d__law_barred) rfl
  have o__law_barred : OkF P0 w K mg base 1 (He.fAd K ("_law_barred", none)) P__law_barred (sp__law_barred K) := ok__law_barred fx gx  F__law_barred
  obtain ⟨fd__law_new_names, F__law_new_names⟩ := defX c 8 (d := d__law_new_names) rfl
  have o__law_new_names : OkF P0 w K mg base 3 (He.fAd K ("_law_new_names", none)) P__law_new_names (sp__law_new_names K) := ok__law_new_names fx gx o__law_shuffled F__law_new_names
  obtain ⟨fd__law_new_scene, F__law_new_scene⟩ := defX c 9 (d := d__law_new_scene) rfl
  have o__law_new_scene : OkF P0 w K mg base 4 (He.fAd K ("_law_new_scene", none)) P__law_new_scene (sp__law_new_scene K) := ok__law_new_scene fx gx o__law_draw o__law_new_names F__law_new_scene
  obtain ⟨fd__law_scene_text, F__law_scene_text⟩ := defX c 10 (d := d__law_scene_text) rfl
  have o__law_scene_text : OkF P0 w K mg base 1 (He.fAd K ("_law_scene_text", none)) P__law_scene_text (sp__law_scene_text K) := ok__law_scene_text fx gx  F__law_scene_text
  obtain ⟨fd__law_is_name, F__law_is_name⟩ := defX c 11 (d := d__law_is_name) rfl
  have o__law_is_name : OkF P0 w K mg base 2 (He.fAd K ("_law_is_name", none)) P__law_is_name (sp__law_is_name K) := ok__law_is_name fx gx o__law_barred F__law_is_name
  obtain ⟨fd__law_bent, F__law_bent⟩ := defX c 12 (d := d__law_bent) rfl
  have o__law_bent : OkF P0 w K mg base 3 (He.fAd K ("_law_bent", none)) P__law_bent (sp__law_bent K) := ok__law_bent fx gx o__law_draw o__law_pick F__law_bent
  obtain ⟨fd__law_read, F__law_read⟩ := defX c 13 (d := d__law_read) rfl
  have o__law_read : OkF P0 w K mg base 3 (He.fAd K ("_law_read", none)) P__law_read (sp__law_read K) := ok__law_read fx gx o__law_is_name F__law_read
  obtain ⟨fd_Scene_init, F_Scene_init⟩ := defX c 14 (d := d_Scene_init) rfl
  have o_Scene_init : OkF P0 w K mg base 3 (He.fAd K ("Scene", some "__init__")) P_Scene_init (sp_Scene_init K) := ok_Scene_init fx gx o_is_name o_lines_of o_words_of o_BadScene F_Scene_init
  obtain ⟨fd__law_told, F__law_told⟩ := defX c 15 (d := d__law_told) rfl
  have o__law_told : OkF P0 w K mg base 5 (He.fAd K ("_law_told", none)) P__law_told (sp__law_told K) := ok__law_told fx gx o_Scene_init F__law_told
  obtain ⟨fd_Scene_eq, F_Scene_eq⟩ := defX c 16 (d := d_Scene_eq) rfl
  have o_Scene_eq : OkF P0 w K mg base 1 (He.fAd K ("Scene", some "__eq__")) P_Scene_eq (sp_Scene_eq K) := ok_Scene_eq fx gx  F_Scene_eq
  exact fg_law fx gx o_Scene_eq o__law_begun_pen o__law_bent o__law_draw o__law_new_scene o__law_read o__law_scene_text o__law_told o_Scene_init F
end
abbrev RR : PySem.W.OpenRow := PySem.W.OpenLaw.row PySem.Challenge.rw_seatedtwice_k01_scenes
abbrev hk : PySem.W.Hook := hookX 5 P0.main.file faD fnD fsD exD
def ob (s : PySem.W.SharedT) : AlX := obsXG 5 P0.main.file faD fnD fsD exD (HandSHeadRun.getT s)
theorem ob_eq (s : PySem.W.SharedT) : ob s = hk.obs s.abs := obsXG_eq (HandSHeadRun.getT_eq s)
abbrev qV : Program := PySem.W.view RR.prog [27]
def looseD : List Str := ["__name__", "SeatError", "BadScene", "LETTERS", "LONGEST", "BARRED", "lines_of", "words_of", "is_name", "MOST_ROWS", "MOST_MARKS", "Scene", "_law_begun_pen", "_law_draw", "_law_pick", "_law_shuffled", "_law_barred", "_law_new_names", "_law_new_scene", "_law_scene_text", "_law_is_name", "_law_bent", "_law_read", "_law_told"]
theorem run (w : World) : HandSHeadRun.RunEq RR qV hk ob 6000 looseD w := by
  intro os
  kernel_rfl
end K01
open PySem PySem.W PySem.Calls PyProof.Rows
theorem PySem.Challenge.cw_seatedtwice_k01_scenes_holds : PySem.Challenge.rw_seatedtwice_k01_scenes.Holds := by
  w_on; o_law
  refine HandSHeadRun.head_any (r := K01.RR) (q := K01.qV) (H := K01.hk) (ob := K01.ob) (M := 6000) (loose := K01.looseD) (d := HandSHeadRun.topDef K01.RR.prog 27) (kwd := []) K01.ob_eq (by kernel_rfl) (fun s => by kernel_rfl) K01.run (by kernel_rfl) (by kernel_rfl) (by kernel_rfl) (by rfl) (by first | assumption | decide +kernel) (by decide +kernel) ⟨rfl, rfl, rfl, rfl, rfl, by decide +kernel⟩ ?hw ?hc
  case hw => w_witness2
  case hc =>
    refine VL.walkG (l := PySem.Challenge.rw_seatedtwice_k01_scenes) (n := 63) (k := 6) (x := "script") (sp := K01.sp_law) rfl (by decide) (by kernel_rfl) ⟨⟨rfl, by decide, by decide⟩, rfl⟩ ?F (fun K ns hl _ => ⟨ns, rfl, fun _ => rfl⟩)
    intro w mg fL h Y G hmg0
    obtain ⟨K, X, c⟩ := Y
    have hmg : mg ("law" : PySem.Str) = some (.ref fL) := by
      have e : (HandSHeadRun.topDef K01.RR.prog 27).name = ("law" : PySem.Str) := by kernel_rfl
      rw [← e]
      exact hmg0
    obtain ⟨fd, F⟩ := VL.defX c 17 (d := K01.d_law) rfl
    have e := hmg.symm.trans (K01.facts_of X G c).1.g_law
    cases e
    exact ⟨K, fd, X, fun s u => L2.FunD.bindsA (ps := ["script"]) F (fun _ _ _ _ _ _ us hl => match us, hl with | [_], _ => rfl) s [u] rfl, fun base _ _ => K01.law_kept X G c F⟩
