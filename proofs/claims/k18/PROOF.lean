import PyProof.Rows.All
import Wide.All
import OpenK.AllK
import Wide.FinOn
import HandS.ForMost
import HandS.ForExc
import HandS.ExcInit
import HandS.Wide
import HandS.TupAny
import HandS.Deep
import HandS.Flow
import HandS.More
import HandS.Defaults
import HandS.Iter
import HandS.Zip
import HandS.Style
import HandS.Comp
import HandS.Lambda
import HandS.Small
import KE.KExcSuper
import KE.KExcIs
import KE.KExcMake
import HandS.ExcField
import HandS.ExcIs
import HandS.Nested
import HandS.TryOnly
import HandS.IsInst
import HandS.OwnEq
import HandS.RaiseMore
import HandS.FStr
import HandS.HeadHook2
import HandS.EndBits
import HandS.Head0
import HandS.Head1
import HandS.Head2
import HandS.HeadEnd
import HandS.HeadHook1
import PySem.Challenge.RW_seatedtwice_k18_errors
set_option Elab.async false
set_option linter.all false
set_option autoImplicit false
set_option maxRecDepth 100000
set_option maxHeartbeats 2000000
/-! VL: values by what they are worth. Frozen data D, owned trees T, slots of T; what a heap bears of them. -/
namespace VL
open PySem PySem.Spec L2
open PyProof.Rows hiding St

inductive D where
  | non | bl (b : Bool) | int (i : Int) | str (s : Str)
  | tup (l : List D) | lst (l : List D) | dct (kvs : List (Key × D)) | obj (C : Addr) (fs : List (Str × D))
  | ref (a : Addr) | ty (n : String)
  /-- a list of ints that is only read (the script) -/
  | scr (ns : List Int)
  /-- a caught exception at a, of the class at C, its dict, its fields -/
  | exc (a C : Addr) (d : Option Addr) (fs : List (Str × D))
  /-- an exception held as a value, not raised -/
  | exv (C : Addr) (fs : List (Str × D))
  deriving Inhabited

/-- owned: frozen data, or a container that nobody else holds -/
inductive T where
  | frz (d : D)
  | bl (ds : List D) | bd (kvs : List (Key × D)) | bo (C : Addr) (fs : List (Str × T))
  | bL (ts : List T) | bD (kvs : List (Key × T))
  deriving Inhabited

abbrev Sl := List (Option T)

mutual
inductive Rz (K : PySem.W.Frag) (Z : Hp) : D → V → Prop
  | non : Rz K Z .non .non
  | bl (b : Bool) : Rz K Z (.bl b) (.bl b)
  | int (i : Int) : Rz K Z (.int i) (.int i)
  | str (s : Str) (h : PyData.strOk s = true) : Rz K Z (.str s) (.str s)
  | ref (a : Addr) : Rz K Z (.ref a) (.ref a)
  | ty (n : String) : Rz K Z (.ty n) (.ty n)
  | tup {ds vs a} : SqT K Z a vs → Rzs K Z ds vs → Rz K Z (.tup ds) (.ref a)
  | lst {ds vs a} : Z a = some (.lst vs) → Rzs K Z ds vs → Rz K Z (.lst ds) (.ref a)
  | scr {ns : List Int} {a} : SqL K Z a (ns.map V.int) → Rz K Z (.scr ns) (.ref a)
  | dct {kvs : List (Key × D)} {kvs' : List (Key × V)} {a} : Rd Z a (.dK kvs') → kvs'.map (·.1) = kvs.map (·.1) → Rzs K Z (kvs.map (·.2)) (kvs'.map (·.2)) → Rz K Z (.dct kvs) (.ref a)
  | exc0 {a C : Addr} : Rz K Z (.exc a C none []) (.ref a)
  | excd {a C dd : Addr} {fs : List (Str × D)} {fs' : List (Str × V)} : Z dd = some (.xd fs') → fs'.map (·.1) = fs.map (·.1) → Rzs K Z (fs.map (·.2)) (fs'.map (·.2)) → Rz K Z (.exc a C (some dd) fs) (.ref a)
  | obj {C dx} {fs : List (Str × D)} {fs' : List (Str × V)} {a} : Z a = some (.ins C dx fs') → fs'.map (·.1) = fs.map (·.1) → Rzs K Z (fs.map (·.2)) (fs'.map (·.2)) → Rz K Z (.obj C fs) (.ref a)
  | exv0 {a C : Addr} : Z a = some (exo a C none) → Rz K Z (.exv C []) (.ref a)
  | exv {a C dd : Addr} {fs : List (Str × D)} {fs' : List (Str × V)} : Z a = some (exo a C (some dd)) → Z dd = some (exd dd fs') → fs'.map (·.1) = fs.map (·.1) → Rzs K Z (fs.map (·.2)) (fs'.map (·.2)) → Rz K Z (.exv C fs) (.ref a)
inductive Rzs (K : PySem.W.Frag) (Z : Hp) : List D → List V → Prop
  | nil : Rzs K Z [] []
  | cons {d v ds vs} : Rz K Z d v → Rzs K Z ds vs → Rzs K Z (d :: ds) (v :: vs)
end

theorem SqL.mono {K : PySem.W.Frag} {Z Z' : Hp} (h1 : ∀ a u, Rd Z a u → Rd Z' a u) {a : Addr} {xs : List V} (h : SqL K Z a xs) : SqL K Z' a xs := by
  rcases h with h | h
  · exact .inl (h1 _ _ h)
  · exact .inr h
theorem SqT.mono {K : PySem.W.Frag} {Z Z' : Hp} (h1 : ∀ a u, Rd Z a u → Rd Z' a u) {a : Addr} {xs : List V} (h : SqT K Z a xs) : SqT K Z' a xs := by
  rcases h with h | h
  · exact .inl (h1 _ _ h)
  · exact .inr h
theorem lst_nd (vs : List V) : ∀ kvs, HO.lst vs ≠ HO.dK kvs := fun _ e => nomatch e
theorem ins_nd (C dx : Addr) (fs : List (Str × V)) : ∀ kvs, HO.ins C dx fs ≠ HO.dK kvs := fun _ e => nomatch e
theorem exo_nd (e C : Addr) (d : Option Addr) : ∀ kvs, exo e C d ≠ HO.dK kvs := fun _ z => nomatch (show HO.ext _ = HO.dK _ from z)
theorem exd_nd (e : Addr) (fs : List (Str × V)) : ∀ kvs, exd e fs ≠ HO.dK kvs := fun _ z => nomatch (show HO.ext _ = HO.dK _ from z)
theorem xd_nd (fs : List (Str × V)) : ∀ kvs, HO.xd fs ≠ HO.dK kvs := fun _ e => nomatch e
mutual
theorem Rz.monoR {K : PySem.W.Frag} {Z Z' : Hp} (h1 : ∀ a u, Rd Z a u → Rd Z' a u) (h2 : ∀ a o, (∀ kvs, o ≠ HO.dK kvs) → Z a = some o → Z' a = some o) : ∀ {d : D} {v : V}, Rz K Z d v → Rz K Z' d v
  | _, _, .non => .non
  | _, _, .bl b => .bl b
  | _, _, .int i => .int i
  | _, _, .str s h => .str s h
  | _, _, .ref a => .ref a
  | _, _, .ty n => .ty n
  | _, _, .tup h r => .tup (SqT.mono h1 h) (Rzs.monoR h1 h2 r)
  | _, _, .lst h r => .lst (h2 _ _ (lst_nd _) h) (Rzs.monoR h1 h2 r)
  | _, _, .scr h => .scr (SqL.mono h1 h)
  | _, _, .dct h e r => .dct (h1 _ _ h) e (Rzs.monoR h1 h2 r)
  | _, _, .exc0 => .exc0
  | _, _, .excd h e r => .excd (h2 _ _ (xd_nd _) h) e (Rzs.monoR h1 h2 r)
  | _, _, .obj h e r => .obj (h2 _ _ (ins_nd _ _ _) h) e (Rzs.monoR h1 h2 r)
  | _, _, .exv0 h => .exv0 (h2 _ _ (exo_nd _ _ _) h)
  | _, _, .exv h q e r => .exv (h2 _ _ (exo_nd _ _ _) h) (h2 _ _ (exd_nd _ _) q) e (Rzs.monoR h1 h2 r)
theorem Rzs.monoR {K : PySem.W.Frag} {Z Z' : Hp} (h1 : ∀ a u, Rd Z a u → Rd Z' a u) (h2 : ∀ a o, (∀ kvs, o ≠ HO.dK kvs) → Z a = some o → Z' a = some o) : ∀ {d : List D} {v : List V}, Rzs K Z d v → Rzs K Z' d v
  | _, _, .nil => .nil
  | _, _, .cons h r => .cons (Rz.monoR h1 h2 h) (Rzs.monoR h1 h2 r)
end
theorem rd_same {Z Z' : Hp} (h : Same Z Z') : ∀ a u, Rd Z a u → Rd Z' a u := fun a u r => by
  rcases r with r | ⟨o, r⟩
  · exact .inl (h _ _ r)
  · exact .inr ⟨o, h _ _ r⟩
theorem Rz.mono {K : PySem.W.Frag} {Z Z' : Hp} (h : Same Z Z') {d : D} {v : V} (r : Rz K Z d v) : Rz K Z' d v := r.monoR (rd_same h) fun _ _ _ e => h _ _ e
theorem Rzs.mono {K : PySem.W.Frag} {Z Z' : Hp} (h : Same Z Z') {d : List D} {v : List V} (r : Rzs K Z d v) : Rzs K Z' d v := r.monoR (rd_same h) fun _ _ _ e => h _ _ e
section
variable {K : PySem.W.Frag} {Z : Hp}
theorem Rzs.length {ds : List D} {vs : List V} (r : Rzs K Z ds vs) : ds.length = vs.length := by
  induction ds generalizing vs with
  | nil => cases r; rfl
  | cons d ds ih => cases r with | cons h r => simp [ih r]
theorem Rzs.append {ds es : List D} {vs ws : List V} (r : Rzs K Z ds vs) (q : Rzs K Z es ws) : Rzs K Z (ds ++ es) (vs ++ ws) := by
  induction ds generalizing vs with
  | nil => cases r; exact q
  | cons d ds ih => cases r with | cons h r => exact .cons h (ih r)
theorem Rzs.one {d : D} {v : V} (r : Rz K Z d v) : Rzs K Z [d] [v] := .cons r .nil
theorem Rzs.get {ds : List D} {vs : List V} (r : Rzs K Z ds vs) {i : Nat} {d : D} (h : ds[i]? = some d) : ∃ v, vs[i]? = some v ∧ Rz K Z d v := by
  induction ds generalizing vs i with
  | nil => simp at h
  | cons d' ds ih =>
    cases r with
    | cons q r =>
      cases i with
      | zero => simp at h; subst h; exact ⟨_, rfl, q⟩
      | succ i => simpa using ih r (i := i) (by simpa using h)
theorem Rzs.getV {ds : List D} {vs : List V} (r : Rzs K Z ds vs) {i : Nat} {v : V} (h : vs[i]? = some v) : ∃ d, ds[i]? = some d ∧ Rz K Z d v := by
  induction ds generalizing vs i with
  | nil => cases r; simp at h
  | cons d' ds ih =>
    cases r with
    | cons q r =>
      cases i with
      | zero => simp at h; subst h; exact ⟨_, rfl, q⟩
      | succ i => simpa using ih r (i := i) (by simpa using h)
theorem Rzs.take {ds : List D} {vs : List V} (r : Rzs K Z ds vs) (n : Nat) : Rzs K Z (ds.take n) (vs.take n) := by
  induction ds generalizing vs n with
  | nil => cases r; simp; exact .nil
  | cons d ds ih =>
    cases r with
    | cons q r =>
      cases n with
      | zero => exact .nil
      | succ n => exact .cons q (ih r n)
theorem Rzs.drop {ds : List D} {vs : List V} (r : Rzs K Z ds vs) (n : Nat) : Rzs K Z (ds.drop n) (vs.drop n) := by
  induction ds generalizing vs n with
  | nil => cases r; simp; exact .nil
  | cons d ds ih =>
    cases r with
    | cons q r =>
      cases n with
      | zero => exact .cons q r
      | succ n => exact ih r n
theorem Rzs.set {ds : List D} {vs : List V} (r : Rzs K Z ds vs) {d : D} {v : V} (q : Rz K Z d v) (i : Nat) : Rzs K Z (ds.set i d) (vs.set i v) := by
  induction ds generalizing vs i with
  | nil => cases r; exact .nil
  | cons d ds ih =>
    cases r with
    | cons q' r =>
      cases i with
      | zero => exact .cons q r
      | succ n => exact .cons q' (ih r n)
theorem Rzs.reverse {ds : List D} {vs : List V} (r : Rzs K Z ds vs) : Rzs K Z ds.reverse vs.reverse := by
  induction ds generalizing vs with
  | nil => cases r; exact .nil
  | cons d ds ih => cases r with | cons h r => simpa using (ih r).append (.one h)
theorem Rzs.eraseIdx {ds : List D} {vs : List V} (r : Rzs K Z ds vs) (i : Nat) : Rzs K Z (ds.eraseIdx i) (vs.eraseIdx i) := by
  induction ds generalizing vs i with
  | nil => cases r; exact .nil
  | cons d ds ih =>
    cases r with
    | cons q r =>
      cases i with
      | zero => exact r
      | succ n => exact .cons q (ih r n)
theorem Rzs.flatten {dss : List (List D)} {vss : List (List V)} (r : Paired (fun d v => Rzs K Z d v) dss vss) : Rzs K Z dss.flatten vss.flatten := by
  induction r with
  | nil => exact .nil
  | cons h _ ih => exact h.append ih
theorem Rzs.strs : ∀ {zs : List Str} {vs : List V}, Rzs K Z (zs.map D.str) vs → vs = zs.map V.str
  | [], _, r => by cases r; rfl
  | z :: zs, _, r => by cases r with | cons h r => cases h; rw [List.map_cons, Rzs.strs r]
theorem Rzs.ofStrs : ∀ (zs : List Str), (∀ z ∈ zs, PyData.strOk z = true) → Rzs K Z (zs.map D.str) (zs.map V.str)
  | [], _ => .nil
  | z :: zs, h => .cons (.str z (h z List.mem_cons_self)) (Rzs.ofStrs zs fun y hy => h y (List.mem_cons_of_mem _ hy))
theorem Rzs.strsOk : ∀ {zs : List Str} {vs : List V}, Rzs K Z (zs.map D.str) vs → ∀ z ∈ zs, PyData.strOk z = true
  | [], _, _ => fun z hz => absurd hz (by simp)
  | z :: zs, _, r => fun y hy => by
    cases r with
    | cons h r =>
      cases h with
      | str _ ok =>
        rcases List.mem_cons.mp hy with e | e
        · rw [e]; exact ok
        · exact Rzs.strsOk r y e
theorem Rzs.ints : ∀ {zs : List Int} {vs : List V}, Rzs K Z (zs.map D.int) vs → vs = zs.map V.int
  | [], _, r => by cases r; rfl
  | z :: zs, _, r => by cases r with | cons h r => cases h; rw [List.map_cons, Rzs.ints r]
theorem Rzs.ofInts : ∀ (zs : List Int), Rzs K Z (zs.map D.int) (zs.map V.int)
  | [] => .nil
  | z :: zs => .cons (.int z) (Rzs.ofInts zs)
theorem Rzs.bls : ∀ {zs : List Bool} {vs : List V}, Rzs K Z (zs.map D.bl) vs → vs = zs.map V.bl
  | [], _, r => by cases r; rfl
  | z :: zs, _, r => by cases r with | cons h r => cases h; rw [List.map_cons, Rzs.bls r]
end

/-! ### owned trees -/
mutual
def T.toD : T → D
  | .frz d => d
  | .bl ds => .lst ds
  | .bd kvs => .dct kvs
  | .bo C fs => .obj C (T.toDf fs)
  | .bL ts => .lst (T.toDs ts)
  | .bD kvs => .dct (T.toDk kvs)
def T.toDs : List T → List D
  | [] => []
  | t :: ts => t.toD :: T.toDs ts
def T.toDf : List (Str × T) → List (Str × D)
  | [] => []
  | (k, t) :: ts => (k, t.toD) :: T.toDf ts
def T.toDk : List (Key × T) → List (Key × D)
  | [] => []
  | (k, t) :: ts => (k, t.toD) :: T.toDk ts
end
theorem toDf_keys : ∀ fs : List (Str × T), (T.toDf fs).map (·.1) = fs.map (·.1)
  | [] => rfl
  | (k, t) :: r => by simp [T.toDf, toDf_keys r]
theorem toDk_keys : ∀ fs : List (Key × T), (T.toDk fs).map (·.1) = fs.map (·.1)
  | [] => rfl
  | (k, t) :: r => by simp [T.toDk, toDk_keys r]
theorem toDf_vals : ∀ fs : List (Str × T), (T.toDf fs).map (·.2) = T.toDs (fs.map (·.2))
  | [] => rfl
  | (k, t) :: r => by simp [T.toDf, T.toDs, toDf_vals r]
theorem toDk_vals : ∀ fs : List (Key × T), (T.toDk fs).map (·.2) = T.toDs (fs.map (·.2))
  | [] => rfl
  | (k, t) :: r => by simp [T.toDk, T.toDs, toDk_vals r]
theorem toDs_map (ts : List T) : T.toDs ts = ts.map T.toD := by
  induction ts with
  | nil => rfl
  | cons t ts ih => simp [T.toDs, ih]
theorem toDf_map (ts : List (Str × T)) : T.toDf ts = ts.map fun p => (p.1, p.2.toD) := by
  induction ts with
  | nil => rfl
  | cons t ts ih => simp [T.toDf, ih]
theorem toDk_map (ts : List (Key × T)) : T.toDk ts = ts.map fun p => (p.1, p.2.toD) := by
  induction ts with
  | nil => rfl
  | cons t ts ih => simp [T.toDk, ih]

mutual
inductive Rp (K : PySem.W.Frag) (Z H : Hp) : T → V → List Addr → Prop
  | frz {d v} : Rz K Z d v → Rp K Z H (.frz d) v []
  | bl {ds vs a} : H a = some (.lst vs) → Z a = none → Rzs K Z ds vs → Rp K Z H (.bl ds) (.ref a) [a]
  | bd {kvs : List (Key × D)} {kvs' : List (Key × V)} {a} : H a = some (.dK kvs') → Z a = none → kvs'.map (·.1) = kvs.map (·.1) → Rzs K Z (kvs.map (·.2)) (kvs'.map (·.2)) → Rp K Z H (.bd kvs) (.ref a) [a]
  | bo {C dx} {fs : List (Str × T)} {fs' : List (Str × V)} {a F} : H a = some (.ins C dx fs') → Z a = none → fs'.map (·.1) = fs.map (·.1) → Rps K Z H (fs.map (·.2)) (fs'.map (·.2)) F → a ∉ F → Rp K Z H (.bo C fs) (.ref a) (a :: F)
  | bL {ts vs a F} : H a = some (.lst vs) → Z a = none → Rps K Z H ts vs F → a ∉ F → Rp K Z H (.bL ts) (.ref a) (a :: F)
  | bD {kvs : List (Key × T)} {kvs' : List (Key × V)} {a F} : H a = some (.dK kvs') → Z a = none → kvs'.map (·.1) = kvs.map (·.1) → Rps K Z H (kvs.map (·.2)) (kvs'.map (·.2)) F → a ∉ F → Rp K Z H (.bD kvs) (.ref a) (a :: F)
inductive Rps (K : PySem.W.Frag) (Z H : Hp) : List T → List V → List Addr → Prop
  | nil : Rps K Z H [] [] []
  | cons {t v F ts vs G} : Rp K Z H t v F → Rps K Z H ts vs G → (∀ x ∈ F, x ∉ G) → Rps K Z H (t :: ts) (v :: vs) (F ++ G)
end
mutual
theorem Rp.foot {K : PySem.W.Frag} {Z H : Hp} : ∀ {t : T} {v : V} {F : List Addr}, Rp K Z H t v F → ∀ x ∈ F, Z x = none ∧ ∃ o, H x = some o
  | _, _, _, .frz _ => fun x hx => absurd hx (by simp)
  | _, _, _, .bl h z _ => fun x hx => by rw [List.mem_singleton.mp hx]; exact ⟨z, _, h⟩
  | _, _, _, .bd h z _ _ => fun x hx => by rw [List.mem_singleton.mp hx]; exact ⟨z, _, h⟩
  | _, _, _, .bo h z _ r _ => fun x hx => by
    rcases List.mem_cons.mp hx with e | hx
    · rw [e]; exact ⟨z, _, h⟩
    · exact Rps.foot r x hx
  | _, _, _, .bL h z r _ => fun x hx => by
    rcases List.mem_cons.mp hx with e | hx
    · rw [e]; exact ⟨z, _, h⟩
    · exact Rps.foot r x hx
  | _, _, _, .bD h z _ r _ => fun x hx => by
    rcases List.mem_cons.mp hx with e | hx
    · rw [e]; exact ⟨z, _, h⟩
    · exact Rps.foot r x hx
theorem Rps.foot {K : PySem.W.Frag} {Z H : Hp} : ∀ {t : List T} {v : List V} {F : List Addr}, Rps K Z H t v F → ∀ x ∈ F, Z x = none ∧ ∃ o, H x = some o
  | _, _, _, .nil => fun x hx => absurd hx (by simp)
  | _, _, _, .cons h r _ => fun x hx => (List.mem_append.mp hx).elim (Rp.foot h x) (Rps.foot r x)
end
mutual
theorem Rp.nxd {K : PySem.W.Frag} {Z H : Hp} : ∀ {t : T} {v : V} {F : List Addr}, Rp K Z H t v F → ∀ x ∈ F, ∀ fs, H x ≠ some (.xd fs)
  | _, _, _, .frz _ => fun x hx => absurd hx (by simp)
  | _, _, _, .bl h z _ => fun x hx fs e => by rw [List.mem_singleton.mp hx, h] at e; cases e
  | _, _, _, .bd h z _ _ => fun x hx fs e => by rw [List.mem_singleton.mp hx, h] at e; cases e
  | _, _, _, .bo h z _ r _ => fun x hx fs e => by
    rcases List.mem_cons.mp hx with q | hx
    · rw [q, h] at e; cases e
    · exact Rps.nxd r x hx fs e
  | _, _, _, .bL h z r _ => fun x hx fs e => by
    rcases List.mem_cons.mp hx with q | hx
    · rw [q, h] at e; cases e
    · exact Rps.nxd r x hx fs e
  | _, _, _, .bD h z _ r _ => fun x hx fs e => by
    rcases List.mem_cons.mp hx with q | hx
    · rw [q, h] at e; cases e
    · exact Rps.nxd r x hx fs e
theorem Rps.nxd {K : PySem.W.Frag} {Z H : Hp} : ∀ {t : List T} {v : List V} {F : List Addr}, Rps K Z H t v F → ∀ x ∈ F, ∀ fs, H x ≠ some (.xd fs)
  | _, _, _, .nil => fun x hx => absurd hx (by simp)
  | _, _, _, .cons h r _ => fun x hx => (List.mem_append.mp hx).elim (Rp.nxd h x) (Rps.nxd r x)
end
mutual
theorem Rp.mono {K : PySem.W.Frag} {Z H Z' H' : Hp} (hz : Same Z Z') : ∀ {t : T} {v : V} {F : List Addr}, (∀ x ∈ F, Z' x = none ∧ H' x = H x) → Rp K Z H t v F → Rp K Z' H' t v F
  | _, _, _, _, .frz r => .frz (r.mono hz)
  | _, _, _, k, .bl h _ r => .bl ((k _ List.mem_cons_self).2.trans h) (k _ List.mem_cons_self).1 (r.mono hz)
  | _, _, _, k, .bd h _ e r => .bd ((k _ List.mem_cons_self).2.trans h) (k _ List.mem_cons_self).1 e (r.mono hz)
  | _, _, _, k, .bo h _ e r n => .bo ((k _ List.mem_cons_self).2.trans h) (k _ List.mem_cons_self).1 e (Rps.mono hz (fun x hx => k x (List.mem_cons_of_mem _ hx)) r) n
  | _, _, _, k, .bL h _ r n => .bL ((k _ List.mem_cons_self).2.trans h) (k _ List.mem_cons_self).1 (Rps.mono hz (fun x hx => k x (List.mem_cons_of_mem _ hx)) r) n
  | _, _, _, k, .bD h _ e r n => .bD ((k _ List.mem_cons_self).2.trans h) (k _ List.mem_cons_self).1 e (Rps.mono hz (fun x hx => k x (List.mem_cons_of_mem _ hx)) r) n
theorem Rps.mono {K : PySem.W.Frag} {Z H Z' H' : Hp} (hz : Same Z Z') : ∀ {t : List T} {v : List V} {F : List Addr}, (∀ x ∈ F, Z' x = none ∧ H' x = H x) → Rps K Z H t v F → Rps K Z' H' t v F
  | _, _, _, _, .nil => .nil
  | _, _, _, k, .cons h r n => .cons (Rp.mono hz (fun x hx => k x (List.mem_append_left _ hx)) h) (Rps.mono hz (fun x hx => k x (List.mem_append_right _ hx)) r) n
end
theorem ho_lst {H : Hp} {a : Addr} {xs ys : List V} (h : H a = some (.lst xs)) (g : H a = some (.lst ys)) : ys = xs := by rw [h] at g; cases g; rfl
theorem ho_dK {H : Hp} {a : Addr} {xs ys : List (Key × V)} (h : H a = some (.dK xs)) (g : H a = some (.dK ys)) : ys = xs := by rw [h] at g; cases g; rfl
theorem ho_ins {H : Hp} {a C dx D dy : Addr} {xs ys : List (Str × V)} (h : H a = some (.ins C dx xs)) (g : H a = some (.ins D dy ys)) : ys = xs := by rw [h] at g; cases g; rfl
mutual
theorem Rp.foot_eq {K : PySem.W.Frag} {Z H : Hp} : ∀ {t : T} {v : V} {F G : List Addr}, Rp K Z H t v F → Rp K Z H t v G → F = G
  | _, _, _, _, .frz _, .frz _ => rfl
  | _, _, _, _, .bl _ _ _, .bl _ _ _ => rfl
  | _, _, _, _, .bd _ _ _ _, .bd _ _ _ _ => rfl
  | _, _, _, _, .bo h _ _ r _, .bo g _ _ q _ => congrArg _ (Rps.foot_eq r (ho_ins h g ▸ q))
  | _, _, _, _, .bL h _ r _, .bL g _ q _ => congrArg _ (Rps.foot_eq r (ho_lst h g ▸ q))
  | _, _, _, _, .bD h _ _ r _, .bD g _ _ q _ => congrArg _ (Rps.foot_eq r (ho_dK h g ▸ q))
theorem Rps.foot_eq {K : PySem.W.Frag} {Z H : Hp} : ∀ {t : List T} {v : List V} {F G : List Addr}, Rps K Z H t v F → Rps K Z H t v G → F = G
  | _, _, _, _, .nil, .nil => rfl
  | _, _, _, _, .cons h r _, .cons g q _ => by rw [Rp.foot_eq h g, Rps.foot_eq r q]
end
mutual
/-- frozen -/
theorem Rp.freeze {K : PySem.W.Frag} {Z H Z' : Hp} (hz : Same Z Z') : ∀ {t : T} {v : V} {F : List Addr}, (∀ x ∈ F, Z' x = H x) → Rp K Z H t v F → Rz K Z' t.toD v
  | _, _, _, _, .frz r => r.mono hz
  | _, _, _, k, .bl h _ r => .lst ((k _ List.mem_cons_self).trans h) (r.mono hz)
  | _, _, _, k, .bd h _ e r => .dct (.inl ((k _ List.mem_cons_self).trans h)) e (r.mono hz)
  | _, _, _, k, .bo h _ e r n => .obj ((k _ List.mem_cons_self).trans h) (by rw [toDf_keys]; exact e) (by rw [toDf_vals]; exact Rps.freeze hz (fun x hx => k x (List.mem_cons_of_mem _ hx)) r)
  | _, _, _, k, .bL h _ r n => .lst ((k _ List.mem_cons_self).trans h) (Rps.freeze hz (fun x hx => k x (List.mem_cons_of_mem _ hx)) r)
  | _, _, _, k, .bD h _ e r n => .dct (.inl ((k _ List.mem_cons_self).trans h)) (by rw [toDk_keys]; exact e) (by rw [toDk_vals]; exact Rps.freeze hz (fun x hx => k x (List.mem_cons_of_mem _ hx)) r)
theorem Rps.freeze {K : PySem.W.Frag} {Z H Z' : Hp} (hz : Same Z Z') : ∀ {t : List T} {v : List V} {F : List Addr}, (∀ x ∈ F, Z' x = H x) → Rps K Z H t v F → Rzs K Z' (T.toDs t) v
  | _, _, _, _, .nil => .nil
  | _, _, _, k, .cons h r n => .cons (Rp.freeze hz (fun x hx => k x (List.mem_append_left _ hx)) h) (Rps.freeze hz (fun x hx => k x (List.mem_append_right _ hx)) r)
end

/-! ### slots -/
inductive Rsl (K : PySem.W.Frag) (Z H : Hp) : Sl → St → List Addr → Prop
  | nil : Rsl K Z H [] [] []
  | gap {x Γ σ F} : Rsl K Z H Γ σ F → Rsl K Z H (none :: Γ) (x :: σ) F
  | has {t v F Γ σ G} : Rp K Z H t v F → Rsl K Z H Γ σ G → (∀ x ∈ F, x ∉ G) → Rsl K Z H (some t :: Γ) (some v :: σ) (F ++ G)
section
variable {K : PySem.W.Frag} {Z H Z' H' : Hp} {Γ : Sl} {σ : St} {F : List Addr}
theorem Rsl.foot (r : Rsl K Z H Γ σ F) : ∀ x ∈ F, Z x = none ∧ ∃ o, H x = some o := by
  induction r with
  | nil => intro x hx; exact absurd hx (by simp)
  | gap _ ih => exact ih
  | has h _ _ ih => exact fun x hx => (List.mem_append.mp hx).elim (Rp.foot h x) (ih x)
theorem Rsl.nxd (r : Rsl K Z H Γ σ F) : ∀ x ∈ F, ∀ fs, H x ≠ some (.xd fs) := by
  induction r with
  | nil => intro x hx; exact absurd hx (by simp)
  | gap _ ih => exact ih
  | has h _ _ ih => exact fun x hx => (List.mem_append.mp hx).elim (Rp.nxd h x) (ih x)
theorem Rsl.mono (hz : Same Z Z') (r : Rsl K Z H Γ σ F) : (∀ x ∈ F, Z' x = none ∧ H' x = H x) → Rsl K Z' H' Γ σ F := by
  induction r with
  | nil => exact fun _ => .nil
  | gap _ ih => exact fun k => .gap (ih k)
  | has h _ n ih => exact fun k => .has (Rp.mono hz (fun x hx => k x (List.mem_append_left _ hx)) h) (ih fun x hx => k x (List.mem_append_right _ hx)) n
theorem Rsl.length (r : Rsl K Z H Γ σ F) : Γ.length = σ.length := by
  induction r with
  | nil => rfl
  | gap _ ih => simp [ih]
  | has _ _ _ ih => simp [ih]
/-- a slot is read: what it holds, and all the others -/
theorem Rsl.at (r : Rsl K Z H Γ σ F) : ∀ {i : Nat} {t : T}, Γ[i]? = some (some t) → ∃ v G, σ[i]? = some (some v) ∧ Rp K Z H t v G ∧ (∀ x ∈ G, x ∈ F) := by
  induction r with
  | nil => intro i t h; simp at h
  | gap _ ih =>
    intro i t h
    cases i with
    | zero => simp at h
    | succ i =>
      obtain ⟨v, G, e, q, s⟩ := ih (i := i) (by simpa using h)
      exact ⟨v, G, by simpa using e, q, s⟩
  | has hp _ n ih =>
    intro i t h
    cases i with
    | zero => simp at h; subst h; exact ⟨_, _, rfl, hp, fun x hx => List.mem_append_left _ hx⟩
    | succ i =>
      obtain ⟨v, G, e, q, s⟩ := ih (i := i) (by simpa using h)
      exact ⟨v, G, by simpa using e, q, fun x hx => List.mem_append_right _ (s x hx)⟩
/-- a slot forgotten: what it held stands apart -/
theorem Rsl.out (r : Rsl K Z H Γ σ F) : ∀ {i : Nat} {t : T}, Γ[i]? = some (some t) → ∃ v G F', σ[i]? = some (some v) ∧ Rp K Z H t v G ∧ Rsl K Z H (Γ.set i none) σ F' ∧ (∀ x, x ∈ F ↔ x ∈ G ∨ x ∈ F') ∧ (∀ x ∈ G, x ∉ F') := by
  induction r with
  | nil => intro i t h; simp at h
  | gap r ih =>
    intro i t h
    cases i with
    | zero => simp at h
    | succ i =>
      obtain ⟨v, G, F', e, q, s, m, n⟩ := ih (i := i) (by simpa using h)
      exact ⟨v, G, F', by simpa using e, q, .gap s, m, n⟩
  | @has t' v' F1 Γ σ G1 hp r n ih =>
    intro i t h
    cases i with
    | zero =>
      simp at h; subst h
      exact ⟨_, _, _, rfl, hp, .gap r, fun x => List.mem_append, n⟩
    | succ i =>
      obtain ⟨v, G, F', e, q, s, m, n'⟩ := ih (i := i) (by simpa using h)
      refine ⟨v, G, F1 ++ F', by simpa using e, q, .has hp s fun x hx hx' => n x hx ((m x).mpr (.inr hx')), fun x => ?_, fun x hx hx' => ?_⟩
      · rw [List.mem_append, List.mem_append, m]
        constructor
        · rintro (h | h | h)
          · exact .inr (.inl h)
          · exact .inl h
          · exact .inr (.inr h)
        · rintro (h | h | h)
          · exact .inr (.inl h)
          · exact .inl h
          · exact .inr (.inr h)
      · rcases List.mem_append.mp hx' with h | h
        · exact n x h ((m x).mpr (.inl hx))
        · exact n' x hx h
/-- a slot is stored -/
theorem Rsl.put (r : Rsl K Z H Γ σ F) : ∀ {i : Nat} {t : T} {v : V} {G : List Addr}, i < Γ.length → Rp K Z H t v G → (∀ x ∈ G, x ∉ F) →
    ∃ F', Rsl K Z H (Γ.set i (some t)) (σ.set i (some v)) F' ∧ ∀ x, x ∈ F' → x ∈ F ∨ x ∈ G := by
  induction r with
  | nil => intro i t v G h; simp at h
  | @gap x Γ σ F r ih =>
    intro i t v G h hp n
    cases i with
    | zero => exact ⟨G ++ F, .has hp r n, fun x hx => (List.mem_append.mp hx).elim .inr .inl⟩
    | succ i =>
      obtain ⟨F', s, m⟩ := ih (i := i) (by simpa using h) hp n
      exact ⟨F', .gap s, m⟩
  | @has t' v' F1 Γ σ G1 h1 r n1 ih =>
    intro i t v G h hp n
    cases i with
    | zero => exact ⟨G ++ G1, .has hp r fun x hx => fun hx' => n x hx (List.mem_append_right _ hx'), fun x hx => (List.mem_append.mp hx).elim .inr fun h => .inl (List.mem_append_right _ h)⟩
    | succ i =>
      obtain ⟨F', s, m⟩ := ih (i := i) (by simpa using h) hp (fun x hx hx' => n x hx (List.mem_append_right _ hx'))
      refine ⟨F1 ++ F', .has h1 s fun x hx hx' => ?_, fun x hx => ?_⟩
      · rcases m x hx' with h | h
        · exact n1 x hx h
        · exact n x h (List.mem_append_left _ hx)
      · rcases List.mem_append.mp hx with h | h
        · exact .inl (List.mem_append_left _ h)
        · rcases m x h with h | h
          · exact .inl (List.mem_append_right _ h)
          · exact .inr h
/-- the value of a slot forgotten may be anything -/
theorem Rsl.forget (r : Rsl K Z H Γ σ F) : ∀ (i : Nat), ∃ F', Rsl K Z H (Γ.set i none) σ F' ∧ ∀ x, x ∈ F' → x ∈ F := by
  induction r with
  | nil => intro i; exact ⟨[], .nil, fun x h => h⟩
  | gap r ih =>
    intro i
    cases i with
    | zero => exact ⟨_, .gap r, fun x h => h⟩
    | succ i => obtain ⟨F', s, m⟩ := ih i; exact ⟨F', .gap s, m⟩
  | @has t' v' F1 Γ σ G1 h1 r n1 ih =>
    intro i
    cases i with
    | zero => exact ⟨_, .gap r, fun x h => List.mem_append_right _ h⟩
    | succ i =>
      obtain ⟨F', s, m⟩ := ih i
      exact ⟨F1 ++ F', .has h1 s fun x hx hx' => n1 x hx (m x hx'), fun x hx => (List.mem_append.mp hx).elim (List.mem_append_left _) fun h => List.mem_append_right _ (m x h)⟩
/-- a forgotten slot may hold any value -/
theorem Rsl.any (r : Rsl K Z H Γ σ F) : ∀ {i : Nat} (y : Option V), Γ[i]? = some none → Rsl K Z H Γ (σ.set i y) F := by
  induction r with
  | nil => intro i y h; simp at h
  | gap r ih =>
    intro i y h
    cases i with
    | zero => exact .gap r
    | succ i => exact .gap (ih y (by simpa using h))
  | has h1 r n1 ih =>
    intro i y h
    cases i with
    | zero => simp at h
    | succ i => exact .has h1 (ih y (by simpa using h)) n1
end

/-! ### from state to state -/
structure Ext (Z H : Hp) (F : List Addr) (Z' H' : Hp) (F' : List Addr) : Prop where
  z : Same Z Z'
  zn : ∀ a, Z' a ≠ none → Z a ≠ none ∨ a ∈ F ∨ H a = none
  fr : ∀ a o, H a = some o → a ∉ F → H' a = some o ∧ a ∉ F'
theorem Ext.refl (Z H : Hp) (F : List Addr) : Ext Z H F Z H F := ⟨.refl _, fun _ h => .inl h, fun _ _ h n => ⟨h, n⟩⟩
theorem Ext.sub {Z H Z' H' : Hp} {F F' F'' : List Addr} (e : Ext Z H F Z' H' F') (h : ∀ x ∈ F'', x ∈ F') : Ext Z H F Z' H' F'' := ⟨e.z, e.zn, fun a o h1 h2 => ⟨(e.fr a o h1 h2).1, fun h3 => (e.fr a o h1 h2).2 (h _ h3)⟩⟩
theorem Ext.tr {Z H Z1 H1 Z2 H2 : Hp} {F F1 G F2 : List Addr} (a : Ext Z H F Z1 H1 (F1 ++ G)) (b : Ext Z1 H1 F1 Z2 H2 F2) : Ext Z H F Z2 H2 (F2 ++ G) where
  z := a.z.trans b.z
  zn := fun x h => by
    have key : H1 x = none ∨ x ∈ F1 → x ∈ F ∨ H x = none := fun h => by
      by_cases hx : x ∈ F
      · exact .inl hx
      · cases e : H x with
        | none => exact .inr rfl
        | some o =>
          obtain ⟨h1, h2⟩ := a.fr x o e hx
          rcases h with h | h
          · rw [h1] at h; cases h
          · exact absurd (List.mem_append_left _ h) h2
    rcases b.zn x h with h | h | h
    · rcases a.zn x h with h | h
      · exact .inl h
      · exact .inr h
    · exact .inr (key (.inr h))
    · exact .inr (key (.inl h))
  fr := fun x o h n => by
    obtain ⟨h1, h2⟩ := a.fr x o h n
    obtain ⟨h3, h4⟩ := b.fr x o h1 fun q => h2 (List.mem_append_left _ q)
    exact ⟨h3, fun q => (List.mem_append.mp q).elim h4 fun q => h2 (List.mem_append_right _ q)⟩
theorem Ext.trans {Z H Z1 H1 Z2 H2 : Hp} {F F1 F2 : List Addr} (a : Ext Z H F Z1 H1 F1) (b : Ext Z1 H1 F1 Z2 H2 F2) : Ext Z H F Z2 H2 F2 := by
  have := Ext.tr (G := []) (by simpa using a) b
  simpa using this
/-- a temporary value outlives what comes behind it -/
theorem Ext.keeps {K : PySem.W.Frag} {Z H Z' H' : Hp} {F F' G : List Addr} {t : T} {v : V} (e : Ext Z H F Z' H' F') (r : Rp K Z H t v G) (n : ∀ x ∈ G, x ∉ F) : Rp K Z' H' t v G ∧ ∀ x ∈ G, x ∉ F' := by
  refine ⟨r.mono e.z fun x hx => ?_, fun x hx => ?_⟩
  · obtain ⟨hz, o, ho⟩ := r.foot x hx
    refine ⟨?_, ?_⟩
    · cases q : Z' x with
      | none => rfl
      | some u =>
        rcases e.zn x (by rw [q]; simp) with h | h | h
        · exact absurd hz h
        · exact absurd h (n x hx)
        · rw [ho] at h; cases h
    · rw [ho]; exact (e.fr x o ho (n x hx)).1
  · obtain ⟨_, o, ho⟩ := r.foot x hx
    exact (e.fr x o ho (n x hx)).2
theorem Ext.keepss {K : PySem.W.Frag} {Z H Z' H' : Hp} {F F' G : List Addr} {t : List T} {v : List V} (e : Ext Z H F Z' H' F') (r : Rps K Z H t v G) (n : ∀ x ∈ G, x ∉ F) : Rps K Z' H' t v G ∧ ∀ x ∈ G, x ∉ F' := by
  refine ⟨r.mono e.z fun x hx => ?_, fun x hx => ?_⟩
  · obtain ⟨hz, o, ho⟩ := r.foot x hx
    refine ⟨?_, ?_⟩
    · cases q : Z' x with
      | none => rfl
      | some u =>
        rcases e.zn x (by rw [q]; simp) with h | h | h
        · exact absurd hz h
        · exact absurd h (n x hx)
        · rw [ho] at h; cases h
    · rw [ho]; exact (e.fr x o ho (n x hx)).1
  · obtain ⟨_, o, ho⟩ := r.foot x hx
    exact (e.fr x o ho (n x hx)).2

/-- a step that changes nothing that stood: new things only -/
structure PStep (Z H Z' H' : Hp) : Prop where
  z : Same Z Z'
  zh : Same Z' H'
  h : Same H H'
  zn : ∀ a, Z' a ≠ none → Z a ≠ none ∨ H a = none
theorem PStep.refl {Z H : Hp} (h : Same Z H) : PStep Z H Z H := ⟨.refl _, h, .refl _, fun _ h => .inl h⟩
theorem PStep.ext {Z H Z' H' : Hp} (p : PStep Z H Z' H') {F G : List Addr} (hG : ∀ x ∈ G, H x = none) : Ext Z H F Z' H' (F ++ G) :=
  ⟨p.z, fun a h => (p.zn a h).elim .inl fun h => .inr (.inr h), fun a o h n => ⟨p.h _ _ h, fun q => (List.mem_append.mp q).elim n fun q => by rw [hG a q] at h; cases h⟩⟩
theorem PStep.trans {Z H Z1 H1 Z2 H2 : Hp} (a : PStep Z H Z1 H1) (b : PStep Z1 H1 Z2 H2) : PStep Z H Z2 H2 :=
  ⟨a.z.trans b.z, b.zh, a.h.trans b.h, fun x h => by
    rcases b.zn x h with h | h
    · exact a.zn x h
    · exact .inr (a.h.free h)⟩
theorem PStep.slots {K : PySem.W.Frag} {Z H Z' H' : Hp} (p : PStep Z H Z' H') {Γ : Sl} {σ : St} {F : List Addr} (r : Rsl K Z H Γ σ F) : Rsl K Z' H' Γ σ F :=
  r.mono p.z fun x hx => by
    obtain ⟨hz, o, ho⟩ := r.foot x hx
    refine ⟨?_, by rw [ho]; exact p.h _ _ ho⟩
    cases q : Z' x with
    | none => rfl
    | some u =>
      rcases p.zn x (by rw [q]; simp) with h | h
      · exact absurd hz h
      · rw [ho] at h; cases h
theorem same_upd {H : Hp} {p : Addr} {o : HO} (h : H p = none) : Same H (upd H p o) := fun b x e => by rw [upd_ne (ne_of_none e h)]; exact e
/-- a new thing, owned -/
theorem PStep.new {Z H : Hp} (h : Same Z H) {p : Addr} {o : HO} (hp : H p = none) : PStep Z H Z (upd H p o) := ⟨.refl _, h.trans (same_upd hp), same_upd hp, fun _ h => .inl h⟩
/-- a new thing, frozen -/
theorem PStep.newz {Z H : Hp} (h : Same Z H) {p : Addr} {o : HO} (hp : H p = none) : PStep Z H (upd Z p o) (upd H p o) := by
  have zp : Z p = none := h.free hp
  refine ⟨same_upd zp, fun b x e => ?_, same_upd hp, fun a q => ?_⟩
  · by_cases hb : b = p
    · subst hb; rw [upd_same] at e ⊢; exact e
    · rw [upd_ne hb] at e ⊢; exact h _ _ e
  · by_cases ha : a = p
    · subst ha; exact .inr hp
    · rw [upd_ne ha] at q; exact .inl q
/-- Z with what is owned at F in it -/
def frzH (Z H : Hp) (F : List Addr) : Hp := fun a => if a ∈ F then H a else Z a
theorem frzH_same {Z H : Hp} {F : List Addr} (hF : ∀ x ∈ F, Z x = none) : Same Z (frzH Z H F) := fun b o e => by
  unfold frzH
  by_cases hb : b ∈ F
  · rw [hF b hb] at e; cases e
  · rw [if_neg hb]; exact e
theorem frzH_below {Z H : Hp} {F : List Addr} (h : Same Z H) : Same (frzH Z H F) H := fun b o e => by
  unfold frzH at e
  by_cases hb : b ∈ F
  · rw [if_pos hb] at e; exact e
  · rw [if_neg hb] at e; exact h _ _ e
theorem frzH_at {Z H : Hp} {F : List Addr} : ∀ x ∈ F, frzH Z H F x = H x := fun x hx => by unfold frzH; rw [if_pos hx]
theorem frzH_ne {Z H : Hp} {F : List Addr} {x : Addr} (hx : x ∉ F) : frzH Z H F x = Z x := by unfold frzH; rw [if_neg hx]
theorem frzH_zn {Z H : Hp} {F : List Addr} {x : Addr} (h : frzH Z H F x ≠ none) : Z x ≠ none ∨ x ∈ F := by
  unfold frzH at h
  by_cases hx : x ∈ F
  · exact .inr hx
  · rw [if_neg hx] at h; exact .inl h
end VL
set_option Elab.async false
set_option linter.all false
set_option autoImplicit false
set_option maxRecDepth 100000
set_option maxHeartbeats 2000000
/-! VL2: judgements over slots of trees; expressions. -/
namespace VL
open PySem PySem.Spec L2
open PyProof.Rows hiding St

abbrev XRl := Addr → List (Str × D) → Sl → Prop
abbrev ME := Sl → (T → Sl → Prop) → XRl → Prop
abbrev MT := Sl → (Bool → Sl → Prop) → XRl → Prop
abbrev MA := Sl → (List T → Sl → Prop) → XRl → Prop

section
variable (K : PySem.W.Frag)
def KOk (Z H : Hp) (F : List Addr) (σ : St) (R : T → Sl → Prop) (Q : VK) : Prop :=
  ∀ Z' H' Γ' F' r v G, Same Z' H' → Ext Z H F Z' H' (F' ++ G) → Rsl K Z' H' Γ' σ F' → Rp K Z' H' r v G → (∀ x ∈ G, x ∉ F') → R r Γ' → Q v H'
def KOkT (Z H : Hp) (F : List Addr) (σ : St) (R : Bool → Sl → Prop) (Q : Bool → Hp → Prop) : Prop :=
  ∀ Z' H' Γ' F' b, Same Z' H' → Ext Z H F Z' H' F' → Rsl K Z' H' Γ' σ F' → R b Γ' → Q b H'
def KOkA (n : Nat) (Z H : Hp) (F : List Addr) (σ : St) (R : List T → Sl → Prop) (Q : List V → Hp → Prop) : Prop :=
  ∀ Z' H' Γ' F' r v G, Same Z' H' → Ext Z H F Z' H' (F' ++ G) → Rsl K Z' H' Γ' σ F' → Rps K Z' H' r v G → (∀ x ∈ G, x ∉ F') → v.length = n → R r Γ' → Q v H'
/-- an exception's dict: none, or its fields (frozen) -/
inductive Xd (Z : Hp) : Option Addr → List (Str × D) → Prop
  | non : Xd Z none []
  | dct {dd : Addr} {fs : List (Str × D)} {fs' : List (Str × V)} : Z dd = some (.xd fs') → fs'.map (·.1) = fs.map (·.1) → Rzs K Z (fs.map (·.2)) (fs'.map (·.2)) → Xd Z (some dd) fs
def XOk (Z H : Hp) (F : List Addr) (σ : St) (XR : XRl) (W : WX) : Prop :=
  ∀ Z' H' Γ' F' C d fs, Same Z' H' → Ext Z H F Z' H' F' → Rsl K Z' H' Γ' σ F' → Xd K Z' d fs → XR C fs Γ' → W (.ref C) d σ H'
def Snd (W : WX) (t : TE) (m : ME) : Prop :=
  ∀ Z H σ Γ F R XR Q, Same Z H → Rsl K Z H Γ σ F → m Γ R XR → KOk K Z H F σ R Q → XOk K Z H F σ XR W → t σ H Q
def SndT (W : WX) (t : TT) (m : MT) : Prop :=
  ∀ Z H σ Γ F R XR Q, Same Z H → Rsl K Z H Γ σ F → m Γ R XR → KOkT K Z H F σ R Q → XOk K Z H F σ XR W → t σ H Q
def SndA (n : Nat) (W : WX) (t : TA) (m : MA) : Prop :=
  ∀ Z H σ Γ F R XR Q, Same Z H → Rsl K Z H Γ σ F → m Γ R XR → KOkA K n Z H F σ R Q → XOk K Z H F σ XR W → t σ H Q
end
structure VE (X : Cx) (W : WX) (e : Expr) (m : ME) : Prop where
  ex : ∃ t, PE X e t ∧ Snd X.K W t m
structure VT (X : Cx) (W : WX) (e : Expr) (m : MT) : Prop where
  ex : ∃ t, PT X e t ∧ SndT X.K W t m
structure VW (X : Cx) (W : WX) (e : Expr) (m : MT) : Prop where
  ex : ∃ t, PW X e t ∧ SndT X.K W t m
structure VA (X : Cx) (W : WX) (es : List Expr) (m : MA) : Prop where
  ex : ∃ t, PA X es t ∧ SndA X.K es.length W t m

section
variable {K : PySem.W.Frag} {Z H Z1 H1 : Hp} {F F1 G : List Addr} {σ : St} {R : T → Sl → Prop} {XR : XRl} {Q : VK} {W : WX} {Γ : Sl}
theorem XOk.step (x : XOk K Z H F σ XR W) (e : Ext Z H F Z1 H1 (F1 ++ G)) : XOk K Z1 H1 F1 σ XR W := fun Z' H' Γ' F' C d fs sm ex rs hd q =>
  x Z' H' Γ' F' C d fs sm ((e.tr ex).sub fun x hx => List.mem_append_left _ hx) rs hd q
theorem XOk.step0 (x : XOk K Z H F σ XR W) (e : Ext Z H F Z1 H1 F1) : XOk K Z1 H1 F1 σ XR W := XOk.step (G := []) x (by simpa using e)
/-- a pure answer -/
theorem KOk.pure (k : KOk K Z H F σ R Q) (hs : Same Z H) (rs : Rsl K Z H Γ σ F) {d : D} {v : V} (r : Rz K Z d v) (q : R (.frz d) Γ) : Q v H :=
  k Z H Γ F (.frz d) v [] hs (by simpa using Ext.refl Z H F) rs (.frz r) (fun x hx => absurd hx (by simp)) q
/-- an answer by a step that changes nothing that stood -/
theorem KOk.pstep (k : KOk K Z H F σ R Q) (rs : Rsl K Z H Γ σ F) {Z' H' : Hp} (p : PStep Z H Z' H') {t : T} {v : V} {G : List Addr} (hG : ∀ x ∈ G, H x = none) (r : Rp K Z' H' t v G) (q : R t Γ) : Q v H' :=
  k Z' H' Γ F t v G p.zh (p.ext hG) (p.slots rs) r (fun x hx hx' => by
    obtain ⟨_, o, ho⟩ := rs.foot x hx'
    rw [hG x hx] at ho; cases ho) q
/-- go on behind a temporary value -/
theorem KOk.step (k : KOk K Z H F σ R Q) (e : Ext Z H F Z1 H1 F1) : KOk K Z1 H1 F1 σ R Q := fun Z' H' Γ' F' r v G sm ex rs rp n q => k Z' H' Γ' F' r v G sm (e.trans ex) rs rp n q
end

section
variable {X : Cx} {W : WX}
/-! ### constants, names -/
def mC (d : D) : ME := fun Γ R _ => R (.frz d) Γ
theorem snd_c {d : D} {v : V} (r : ∀ Z, Rz X.K Z d v) : Snd X.K W (tC v) (mC d) := fun Z H σ Γ F R XR Q hs rs m k x => k.pure hs rs (r Z) m
theorem ve_int {i j pos} : VE X W (.Constant (.int i) j pos) (mC (.int i)) := ⟨_, pe_int, snd_c fun _ => .int i⟩
theorem ve_bl {b j pos} : VE X W (.Constant (.bool b) j pos) (mC (.bl b)) := ⟨_, pe_bl, snd_c fun _ => .bl b⟩
theorem ve_non {j pos} : VE X W (.Constant .none j pos) (mC .non) := ⟨_, pe_non, snd_c fun _ => .non⟩
theorem ve_str {x j pos} (h : PyData.strOk x = true := by decide +kernel) : VE X W (.Constant (.str x) j pos) (mC (.str x)) := ⟨_, pe_str, snd_c fun _ => .str x h⟩
theorem ve_glob {x : Str} {d : D} {v : V} {u : Value} {pos : Pos} (hg : Gl X x) (hm : X.mg x = some u) (r : RelV v u) (rz : ∀ Z, Rz X.K Z d v) (hd : (x == ("__debug__" : Str)) = false := by decide) : VE X W (.Name x pos) (mC d) :=
  ⟨_, pe_glob hg hm r hd, snd_c rz⟩

theorem frz_slots {K : PySem.W.Frag} {Z H : Hp} {F G : List Addr} {Γ : Sl} {σ : St} (rs : Rsl K Z H Γ σ F) (h0 : ∀ x ∈ G, Z x = none) (hG : ∀ x ∈ G, x ∉ F) : Rsl K (frzH Z H G) H Γ σ F :=
  rs.mono (frzH_same h0) fun x hx => by
    obtain ⟨hz, o, ho⟩ := rs.foot x hx
    exact ⟨by rw [frzH_ne fun h => hG x h hx]; exact hz, rfl⟩
/-- an owned answer frozen: go on with it -/
theorem KOk.frz {K : PySem.W.Frag} {Z H : Hp} {F F1 G : List Addr} {σ : St} {R : T → Sl → Prop} {Q : VK} {Γ : Sl} {t : T} {v : V} (k : KOk K Z H F σ R Q) (hs : Same Z H) (rs : Rsl K Z H Γ σ F1) (rp : Rp K Z H t v G) (nG : ∀ x ∈ G, x ∉ F1)
    (hF : ∀ x, x ∈ F1 ∨ x ∈ G → x ∈ F) (q : R (.frz t.toD) Γ) : Q v H := by
  have h0 : ∀ x ∈ G, Z x = none := fun x hx => (rp.foot x hx).1
  refine k (frzH Z H G) H Γ F1 (.frz t.toD) v [] (frzH_below hs) ⟨frzH_same h0, fun a h => ?_, fun a o h n => ⟨h, fun q => n (hF a (.inl (by simpa using q)))⟩⟩ (frz_slots rs h0 nG) (.frz (rp.freeze (frzH_same h0) frzH_at)) (fun x hx => absurd hx (by simp)) q
  rcases frzH_zn h with h | h
  · exact .inl h
  · exact .inr (.inl (hF a (.inr h)))
/-- a local name: what it holds is frozen, the slot stays -/
def mNm (i : Nat) : ME := fun Γ R _ => ∃ t, Γ[i]? = some (some t) ∧ R (.frz t.toD) (Γ.set i (some (.frz t.toD)))
theorem Rsl.refrz {K : PySem.W.Frag} {Z H : Hp} {F : List Addr} {Γ : Sl} {σ : St} (hs : Same Z H) (rs : Rsl K Z H Γ σ F) {i : Nat} {t : T} (e : Γ[i]? = some (some t)) :
    ∃ v G F', σ[i]? = some (some v) ∧ Rz K (frzH Z H G) t.toD v ∧ Same Z (frzH Z H G) ∧ Same (frzH Z H G) H ∧ Rsl K (frzH Z H G) H (Γ.set i (some (.frz t.toD))) σ F' ∧ (∀ x ∈ F', x ∈ F) ∧ ∀ x ∈ G, x ∈ F := by
  obtain ⟨v, G, F', ev, rp, rs', mm, nn⟩ := rs.out e
  have h0 : ∀ x ∈ G, Z x = none := fun x hx => (rp.foot x hx).1
  have rz := rp.freeze (frzH_same (H := H) h0) frzH_at
  have hi : i < (Γ.set i none).length := by
    rw [List.length_set]
    exact (List.getElem?_eq_some_iff.mp e).1
  obtain ⟨F2, rs2, m2⟩ := (frz_slots rs' h0 nn).put (i := i) (t := .frz t.toD) (v := v) (G := []) hi (.frz rz) (fun x hx => absurd hx (by simp))
  have ei : σ.set i (some v) = σ := by
    apply List.ext_getElem?
    intro j
    by_cases hj : i = j
    · subst hj
      have hl : i < σ.length := (List.getElem?_eq_some_iff.mp ev).1
      rw [List.getElem?_set_self hl, ev]
    · rw [List.getElem?_set_ne hj]
  rw [ei, List.set_set] at rs2
  exact ⟨v, G, F2, ev, rz, frzH_same h0, frzH_below hs, rs2, fun x hx => (m2 x hx).elim (fun h => (mm x).mpr (.inr h)) fun h => absurd h (by simp), fun x hx => (mm x).mpr (.inl hx)⟩
theorem snd_nm {i : Nat} : Snd X.K W (tVar i) (mNm i) := fun Z H σ Γ F R XR Q hs rs ⟨t, e, q⟩ k x => by
  obtain ⟨v, G, F2, ev, rz, s1, s2, rs2, sub, subG⟩ := rs.refrz hs e
  refine ⟨v, ev, k _ H _ F2 _ v [] s2 ⟨s1, fun a h => ?_, fun a o h n => ⟨h, fun q => n (sub a (by simpa using q))⟩⟩ rs2 (.frz rz) (fun x hx => absurd hx (by simp)) q⟩
  rcases frzH_zn h with h | h
  · exact .inl h
  · exact .inr (.inl (subG a h))
theorem ve_nm (i : Nat) {x : Str} {pos : Pos} (hN : X.N[i]? = some x := by rfl) (hv : Vis X.env.scope x := by first | exact Or.inl rfl | exact Or.inr (Or.inl rfl) | exact Or.inr (Or.inr rfl)) (hd : (x == ("__debug__" : Str)) = false := by decide)
    (hcd : (x == ("__classdict__" : Str)) = false := by decide) : VE X W (.Name x pos) (mNm i) := ⟨_, pe_var hN hv hd hcd, snd_nm⟩
/-- a local name given away: the slot is empty behind it -/
def mMv (i : Nat) : ME := fun Γ R _ => ∃ t, Γ[i]? = some (some t) ∧ R t (Γ.set i none)
theorem snd_mv {i : Nat} : Snd X.K W (tVar i) (mMv i) := fun Z H σ Γ F R XR Q hs rs ⟨t, e, q⟩ k x => by
  obtain ⟨v, G, F', ev, rp, rs', mm, nn⟩ := rs.out e
  refine ⟨v, ev, k Z H _ F' t v G hs ((Ext.refl Z H F).sub fun a ha => (mm a).mpr ((List.mem_append.mp ha).elim .inr .inl)) rs' rp nn q⟩
theorem ve_mv (i : Nat) {x : Str} {pos : Pos} (hN : X.N[i]? = some x := by rfl) (hv : Vis X.env.scope x := by first | exact Or.inl rfl | exact Or.inr (Or.inl rfl) | exact Or.inr (Or.inr rfl)) (hd : (x == ("__debug__" : Str)) = false := by decide)
    (hcd : (x == ("__classdict__" : Str)) = false := by decide) : VE X W (.Name x pos) (mMv i) := ⟨_, pe_var hN hv hd hcd, snd_mv⟩

/-! ### argument lists -/
def mA0 : MA := fun Γ R _ => R [] Γ
def mAc (m : ME) (r : MA) : MA := fun Γ R XR => m Γ (fun t Γ1 => r Γ1 (fun ts Γ2 => R (t :: ts) Γ2) XR) XR
theorem va_nil : VA X W [] mA0 := ⟨_, pa_nil, fun Z H σ Γ F R XR Q hs rs m k x => k Z H Γ F [] [] [] hs (by simpa using Ext.refl Z H F) rs .nil (fun x hx => absurd hx (by simp)) rfl m⟩
theorem va_cons {e : Expr} {es : List Expr} {m : ME} {r : MA} (h : VE X W e m) (g : VA X W es r) (hs : starEach (e :: es) X.env = (false, eval e X.env) :: starEach es X.env := by rfl) : VA X W (e :: es) (mAc m r) := by
  obtain ⟨te, pe, se⟩ := h.ex
  obtain ⟨ta, pa, sa⟩ := g.ex
  refine ⟨_, pa_cons pe pa hs, fun Z H σ Γ F R XR Q hs rs m k x => ?_⟩
  refine se Z H σ Γ F _ XR _ hs rs m (fun Z1 H1 Γ1 F1 t v G s1 e1 r1 p1 n1 q1 => ?_) x
  refine sa Z1 H1 σ Γ1 F1 _ XR _ s1 r1 q1 (fun Z2 H2 Γ2 F2 ts vs G2 s2 e2 r2 p2 n2 l2 q2 => ?_) (x.step e1)
  obtain ⟨kp, kn⟩ := e2.keeps p1 n1
  refine k Z2 H2 Γ2 F2 (t :: ts) (v :: vs) (G ++ G2) s2 ((e1.tr e2).sub fun a ha => ?_) r2 (.cons kp p2 fun a ha hb => kn a ha (List.mem_append_right _ hb)) (fun a ha hb => ?_) (by simp [l2]) q2
  · simp only [List.mem_append] at ha ⊢
    rcases ha with h | h | h
    · exact .inl (.inl h)
    · exact .inr h
    · exact .inl (.inr h)
  · rcases List.mem_append.mp ha with h | h
    · exact kn a h (List.mem_append_left _ hb)
    · exact n2 a h hb

/-! ### displays -/
theorem Rps.length {K : PySem.W.Frag} {Z H : Hp} : ∀ {ts : List T} {vs : List V} {F : List Addr}, Rps K Z H ts vs F → ts.length = vs.length
  | _, _, _, .nil => rfl
  | _, _, _, .cons _ r _ => by simp [Rps.length r]
def mTup (m : MA) : ME := fun Γ R XR => m Γ (fun ts Γ' => R (.frz (.tup (ts.map T.toD))) Γ') XR
def mLst (m : MA) : ME := fun Γ R XR => m Γ (fun ts Γ' => R (.bl (ts.map T.toD)) Γ') XR
/-- arguments frozen -/
theorem frz_args {K : PySem.W.Frag} {Z H : Hp} {F G : List Addr} {Γ : Sl} {σ : St} {ts : List T} {vs : List V} (hs : Same Z H) (rs : Rsl K Z H Γ σ F) (rp : Rps K Z H ts vs G) (n : ∀ x ∈ G, x ∉ F) :
    Same Z (frzH Z H G) ∧ Same (frzH Z H G) H ∧ Rsl K (frzH Z H G) H Γ σ F ∧ Rzs K (frzH Z H G) (ts.map T.toD) vs := by
  have h0 : ∀ x ∈ G, Z x = none := fun x hx => (rp.foot x hx).1
  exact ⟨frzH_same h0, frzH_below hs, frz_slots rs h0 n, by rw [← toDs_map]; exact rp.freeze (frzH_same h0) frzH_at⟩
theorem ext_frz {Z H Z1 H1 : Hp} {F F1 G : List Addr} (e : Ext Z H F Z1 H1 (F1 ++ G)) (h0 : ∀ x ∈ G, Z1 x = none) : Ext Z H F (frzH Z1 H1 G) H1 F1 := by
  have e' : Ext Z1 H1 (F1 ++ G) (frzH Z1 H1 G) H1 F1 := ⟨frzH_same h0, fun a h => (frzH_zn h).elim .inl fun h => .inr (.inl (List.mem_append_right _ h)), fun a o h n => ⟨h, fun q => n (List.mem_append_left _ q)⟩⟩
  exact e.trans e'
theorem ve_tup {es : List Expr} {x1} {pos : Pos} {m : MA} (h : VA X W es m) (hl : es.length ≤ 1000 := by decide) : VE X W (.Tuple es x1 pos) (mTup m) := by
  obtain ⟨ta, pa, sa⟩ := h.ex
  refine ⟨_, pe_tup pa, fun Z H σ Γ F R XR Q hs rs m k x => ?_⟩
  refine sa Z H σ Γ F _ XR _ hs rs m (fun Z1 H1 Γ1 F1 ts vs G s1 e1 r1 p1 n1 l1 q1 => ⟨by rw [l1]; exact Nat.le_of_lt (small1000 hl), fun p hp => ?_⟩) x
  obtain ⟨f1, f2, f3, f4⟩ := frz_args s1 r1 p1 n1
  have st := PStep.newz f2 (o := .tup vs) hp
  refine (k.step ((ext_frz e1 fun x hx => (p1.foot x hx).1))).pstep f3 st (G := []) (fun x hx => absurd hx (by simp)) (.frz (.tup (.inl (.inl upd_same)) (f4.mono st.z))) q1
theorem ve_lst {es : List Expr} {pos : Pos} {m : MA} (h : VA X W es m) (hl : es.length ≤ 1000 := by decide) : VE X W (.List es pos) (mLst m) := by
  obtain ⟨ta, pa, sa⟩ := h.ex
  refine ⟨_, pe_lst pa, fun Z H σ Γ F R XR Q hs rs m k x => ?_⟩
  refine sa Z H σ Γ F _ XR _ hs rs m (fun Z1 H1 Γ1 F1 ts vs G s1 e1 r1 p1 n1 l1 q1 => ⟨by rw [l1]; exact Nat.le_of_lt (small1000 hl), fun p hp => ?_⟩) x
  obtain ⟨f1, f2, f3, f4⟩ := frz_args s1 r1 p1 n1
  have st := PStep.new f2 (o := .lst vs) hp
  exact (k.step ((ext_frz e1 fun x hx => (p1.foot x hx).1))).pstep f3 st (G := [p]) (fun x hx => by rw [List.mem_singleton.mp hx]; exact hp) (.bl upd_same (f2.free hp) f4) q1
end
end VL
set_option Elab.async false
set_option linter.all false
set_option autoImplicit false
set_option maxRecDepth 100000
set_option maxHeartbeats 2000000
/-! VL3: views, operands, operators. -/
namespace VL
open PySem PySem.Spec L2
open PyProof.Rows hiding St

/-! ### views -/
inductive Vw (K : PySem.W.Frag) (Z H : Hp) : D → V → Prop
  | rz {d v} : Rz K Z d v → Vw K Z H d v
  | lst {ds vs a} : H a = some (.lst vs) → Rzs K Z ds vs → Vw K Z H (.lst ds) (.ref a)
  | dct {kvs : List (Key × D)} {kvs' : List (Key × V)} {a} : H a = some (.dK kvs') → kvs'.map (·.1) = kvs.map (·.1) → Rzs K Z (kvs.map (·.2)) (kvs'.map (·.2)) → Vw K Z H (.dct kvs) (.ref a)
def T.vw : T → (D → Prop) → Prop
  | .frz d, k => k d
  | .bl ds, k => k (.lst ds)
  | .bd kvs, k => k (.dct kvs)
  | _, _ => False
theorem vw_frz (d : D) (k : D → Prop) : (T.frz d).vw k = k d := rfl
theorem vw_bl (d : List D) (k : D → Prop) : (T.bl d).vw k = k (.lst d) := rfl
theorem vw_bd (d : List (Key × D)) (k : D → Prop) : (T.bd d).vw k = k (.dct d) := rfl
section
variable {K : PySem.W.Frag} {Z H : Hp}
theorem T.vw_ex {t : T} {k : D → Prop} (h : t.vw k) : ∃ d, t.vw (fun x => x = d) ∧ k d := by
  cases t with
  | frz d => exact ⟨d, rfl, h⟩
  | bl ds => exact ⟨_, rfl, h⟩
  | bd kvs => exact ⟨_, rfl, h⟩
  | _ => exact h.elim
theorem T.vw_mono {t : T} {k k' : D → Prop} (h : t.vw k) (f : ∀ d, k d → k' d) : t.vw k' := by
  cases t with
  | frz d => exact f _ h
  | bl ds => exact f _ h
  | bd kvs => exact f _ h
  | _ => exact h.elim
theorem Rp.view {t : T} {v : V} {F : List Addr} (r : Rp K Z H t v F) {d : D} (h : t.vw (fun x => x = d)) : Vw K Z H d v := by
  cases r with
  | frz r => cases (show _ = d from h); exact .rz r
  | bl h1 h2 h3 => cases (show _ = d from h); exact .lst h1 h3
  | bd h1 h2 h3 h4 => cases (show _ = d from h); exact .dct h1 h3 h4
  | _ => exact h.elim
theorem Vw.lstE (hs : Same Z H) {ds : List D} {v : V} (h : Vw K Z H (.lst ds) v) : ∃ a vs, v = .ref a ∧ H a = some (.lst vs) ∧ Rzs K Z ds vs := by
  cases h with
  | rz r => cases r with | lst h r => exact ⟨_, _, rfl, hs _ _ h, r⟩
  | lst h r => exact ⟨_, _, rfl, h, r⟩
theorem same_rd {Z H : Hp} (hs : Same Z H) {a : Addr} {u : HO} (h : Rd Z a u) : Rd H a u := rd_same hs _ _ h
theorem Vw.tupE (hs : Same Z H) {ds : List D} {v : V} (h : Vw K Z H (.tup ds) v) : ∃ a vs, v = .ref a ∧ SqT K H a vs ∧ Rzs K Z ds vs := by
  cases h with
  | rz r => cases r with | tup h r => exact ⟨_, _, rfl, SqT.mono (rd_same hs) h, r⟩
theorem Vw.tupZ {ds : List D} {v : V} (h : Vw K Z H (.tup ds) v) : ∃ a vs, v = .ref a ∧ SqT K Z a vs ∧ Rzs K Z ds vs := by
  cases h with
  | rz r => cases r with | tup h r => exact ⟨_, _, rfl, h, r⟩
theorem Vw.dctE (hs : Same Z H) {kvs : List (Key × D)} {v : V} (h : Vw K Z H (.dct kvs) v) : ∃ (a : Addr) (kvs' : List (Key × V)), v = .ref a ∧ Rd H a (.dK kvs') ∧ kvs'.map (·.1) = kvs.map (·.1) ∧ Rzs K Z (kvs.map (·.2)) (kvs'.map (·.2)) := by
  cases h with
  | rz r => cases r with | dct h e r => exact ⟨_, _, rfl, same_rd hs h, e, r⟩
  | dct h e r => exact ⟨_, _, rfl, .inl h, e, r⟩
theorem Vw.scrE (hs : Same Z H) {ns : List Int} {v : V} (h : Vw K Z H (.scr ns) v) : ∃ a, v = .ref a ∧ SqL K H a (ns.map V.int) := by
  cases h with
  | rz r => cases r with | scr h => exact ⟨_, rfl, SqL.mono (rd_same hs) h⟩
theorem Vw.intE {i : Int} {v : V} (h : Vw K Z H (.int i) v) : v = .int i := by cases h with | rz r => cases r; rfl
theorem Vw.blE {i : Bool} {v : V} (h : Vw K Z H (.bl i) v) : v = .bl i := by cases h with | rz r => cases r; rfl
theorem Vw.nonE {v : V} (h : Vw K Z H .non v) : v = .non := by cases h with | rz r => cases r; rfl
theorem Vw.strE {i : Str} {v : V} (h : Vw K Z H (.str i) v) : v = .str i ∧ PyData.strOk i = true := by cases h with | rz r => cases r with | str _ ok => exact ⟨rfl, ok⟩
theorem Vw.objE (hs : Same Z H) {C : Addr} {fs : List (Str × D)} {v : V} (h : Vw K Z H (.obj C fs) v) : ∃ (a dx : Addr) (fs' : List (Str × V)), v = .ref a ∧ H a = some (.ins C dx fs') ∧ fs'.map (·.1) = fs.map (·.1) ∧ Rzs K Z (fs.map (·.2)) (fs'.map (·.2)) := by
  cases h with
  | rz r => cases r with | obj h e r => exact ⟨_, _, _, rfl, hs _ _ h, e, r⟩
/-- a value is nothing exactly if its datum is -/
def D.isNon : D → Bool
  | .non => true
  | _ => false
theorem Vw.isN {d : D} {v : V} (h : Vw K Z H d v) : decide (v = .non) = d.isNon := by
  cases h with
  | rz r => cases r <;> rfl
  | lst _ _ => rfl
  | dct _ _ _ => rfl
theorem Vw.mono {Z' H' : Hp} {d : D} {v : V} (h : Vw K Z H d v) (p : PStep Z H Z' H') : Vw K Z' H' d v := by
  cases h with
  | rz r => exact .rz (r.mono p.z)
  | lst h r => exact .lst (p.h _ _ h) (r.mono p.z)
  | dct h e r => exact .dct (p.h _ _ h) e (r.mono p.z)
end

/-! ### what is wanted of an answer that changes nothing that stood -/
def PK (K : PySem.W.Frag) (Z H : Hp) (R : T → Prop) (Q : VK) : Prop :=
  ∀ Z' H' t v G, PStep Z H Z' H' → (∀ x ∈ G, H x = none) → Rp K Z' H' t v G → R t → Q v H'
section
variable {K : PySem.W.Frag} {Z H : Hp} {R : T → Prop} {Q : VK}
theorem PK.frz (k : PK K Z H R Q) (hs : Same Z H) {d : D} {v : V} (r : Rz K Z d v) (q : R (.frz d)) : Q v H := k Z H _ v [] (.refl hs) (fun x hx => absurd hx (by simp)) (.frz r) q
theorem PK.lst (k : PK K Z H R Q) (hs : Same Z H) {ds : List D} {vs : List V} (r : Rzs K Z ds vs) (q : R (.bl ds)) : ∀ p, H p = none → Q (.ref p) (upd H p (.lst vs)) := fun p hp =>
  k Z _ _ (.ref p) [p] (.new hs hp) (fun x hx => by rw [List.mem_singleton.mp hx]; exact hp) (.bl upd_same (hs.free hp) r) q
theorem PK.tup (k : PK K Z H R Q) (hs : Same Z H) {ds : List D} {vs : List V} (r : Rzs K Z ds vs) (q : R (.frz (.tup ds))) : ∀ p, H p = none → Q (.ref p) (upd H p (.tup vs)) := fun p hp =>
  k _ _ _ (.ref p) [] (.newz hs hp) (fun x hx => absurd hx (by simp)) (.frz (.tup (.inl (.inl upd_same)) (r.mono (same_upd (hs.free hp))))) q
theorem PK.dct (k : PK K Z H R Q) (hs : Same Z H) {kvs : List (Key × D)} {kvs' : List (Key × V)} (e : kvs'.map (·.1) = kvs.map (·.1)) (r : Rzs K Z (kvs.map (·.2)) (kvs'.map (·.2))) (q : R (.bd kvs)) : ∀ p, H p = none → Q (.ref p) (upd H p (.dK kvs')) := fun p hp =>
  k Z _ _ (.ref p) [p] (.new hs hp) (fun x hx => by rw [List.mem_singleton.mp hx]; exact hp) (.bd upd_same (hs.free hp) e r) q
end
theorem KOk.ofP {K : PySem.W.Frag} {Z H : Hp} {F : List Addr} {σ : St} {R : T → Sl → Prop} {Q : VK} {Γ : Sl} (k : KOk K Z H F σ R Q) (rs : Rsl K Z H Γ σ F) : PK K Z H (fun t => R t Γ) Q :=
  fun Z' H' t v G p hG r q => k.pstep rs p hG r q
theorem KOk.ofPE {K : PySem.W.Frag} {Z H Z1 H1 : Hp} {F F1 : List Addr} {σ : St} {R : T → Sl → Prop} {Q : VK} {Γ : Sl} (k : KOk K Z H F σ R Q) (e : Ext Z H F Z1 H1 F1) (rs : Rsl K Z1 H1 Γ σ F1) : PK K Z1 H1 (fun t => R t Γ) Q := (k.step e).ofP rs

/-! ### fields -/
section
variable {K : PySem.W.Frag} {Z H : Hp}
theorem Rzs.lookup {κ : Type} [BEq κ] [LawfulBEq κ] : ∀ {fs : List (κ × D)} {fs' : List (κ × V)}, fs'.map (·.1) = fs.map (·.1) → Rzs K Z (fs.map (·.2)) (fs'.map (·.2)) → ∀ {f : κ} {d : D}, fs.lookup f = some d → ∃ v, fs'.lookup f = some v ∧ Rz K Z d v
  | [], _, _, _, _, _, h => by simp at h
  | (k, d') :: fs, [], e, _, _, _, _ => by simp at e
  | (k, d') :: fs, (k', v') :: fs', e, r, f, d, h => by
    simp only [List.map_cons, List.cons.injEq] at e
    obtain ⟨rfl, e⟩ := e
    simp only [List.map_cons] at r
    cases r with
    | cons h1 r =>
      rw [List.lookup_cons] at h ⊢
      by_cases hk : (f == k') = true
      · rw [hk] at h ⊢
        simp only [Option.some.injEq] at h
        subst h
        exact ⟨_, rfl, h1⟩
      · have hk' : (f == k') = false := by simpa using hk
        rw [hk'] at h ⊢
        exact Rzs.lookup e r h
theorem Rps.lookup {κ : Type} [BEq κ] [LawfulBEq κ] : ∀ {fs : List (κ × T)} {fs' : List (κ × V)} {F : List Addr}, fs'.map (·.1) = fs.map (·.1) → Rps K Z H (fs.map (·.2)) (fs'.map (·.2)) F → ∀ {f : κ} {d : T}, fs.lookup f = some d → ∃ v G, fs'.lookup f = some v ∧ Rp K Z H d v G ∧ ∀ x ∈ G, x ∈ F
  | [], _, _, _, _, _, _, h => by simp at h
  | (k, d') :: fs, [], _, e, _, _, _, _ => by simp at e
  | (k, d') :: fs, (k', v') :: fs', _, e, r, f, d, h => by
    simp only [List.map_cons, List.cons.injEq] at e
    obtain ⟨rfl, e⟩ := e
    simp only [List.map_cons] at r
    cases r with
    | cons h1 r n =>
      rw [List.lookup_cons] at h ⊢
      by_cases hk : (f == k') = true
      · rw [hk] at h ⊢
        simp only [Option.some.injEq] at h
        subst h
        exact ⟨_, _, rfl, h1, fun x hx => List.mem_append_left _ hx⟩
      · have hk' : (f == k') = false := by simpa using hk
        rw [hk'] at h ⊢
        obtain ⟨v, G, a, b, c⟩ := Rps.lookup e r h
        exact ⟨v, G, a, b, fun x hx => List.mem_append_right _ (c x hx)⟩
end

/-! ### operands -/
inductive Opr where
  | nm (i : Nat)
  | fl (i : Nat) (Cs : List Addr) (f : Str)
  | ex (m : ME)
def slV (Γ : Sl) (i : Nat) (k : D → Prop) : Prop := match Γ[i]? with
  | some (some t) => t.vw k
  | _ => False
def atV (Γ : Sl) (i : Nat) (Cs : List Addr) (f : Str) (k : D → Prop) : Prop := match Γ[i]? with
  | some (some (.bo C fs)) => C ∈ Cs ∧ match fs.lookup f with
    | some t => t.vw k
    | none => False
  | some (some (.frz (.obj C fs))) => C ∈ Cs ∧ match fs.lookup f with
    | some d => k d
    | none => False
  | _ => False
def vwM (m : ME) (Γ : Sl) (k : D → Sl → Prop) (XR : XRl) : Prop := m Γ (fun t Γ' => t.vw fun d => k d Γ') XR
/-- one operand -/
def mO1 (op : D → (T → Prop) → Prop) : Opr → ME
  | .nm i => fun Γ R XR => slV Γ i fun d => op d fun t => R t Γ
  | .fl i Cs f => fun Γ R XR => atV Γ i Cs f fun d => op d fun t => R t Γ
  | .ex m => fun Γ R XR => vwM m Γ (fun d Γ' => op d fun t => R t Γ') XR
/-- two operands, the first one no attribute -/
def mO2 (op : D → D → (T → Prop) → Prop) : Opr → Opr → ME
  | .nm i, .nm j => fun Γ R XR => slV Γ i fun d => slV Γ j fun e => op d e fun t => R t Γ
  | .nm i, .fl j Cs f => fun Γ R XR => slV Γ i fun d => atV Γ j Cs f fun e => op d e fun t => R t Γ
  | .nm i, .ex m => fun Γ R XR => slV Γ i (fun _ => True) ∧ vwM m Γ (fun e Γ' => slV Γ' i fun d => op d e fun t => R t Γ') XR
  | .fl i Cs f, .nm j => fun Γ R XR => atV Γ i Cs f fun d => slV Γ j fun e => op d e fun t => R t Γ
  | .fl i Cs f, .fl j Cs' g => fun Γ R XR => atV Γ i Cs f fun d => atV Γ j Cs' g fun e => op d e fun t => R t Γ
  | .fl _ _ _, .ex _ => fun _ _ _ => False
  | .ex m, .nm j => fun Γ R XR => m Γ (fun t Γ' => t.vw fun d => slV Γ' j fun e => op d e fun t => R t Γ') XR
  | .ex m, .fl j Cs f => fun Γ R XR => m Γ (fun t Γ' => t.vw fun d => atV Γ' j Cs f fun e => op d e fun t => R t Γ') XR
  | .ex m, .ex m' => fun Γ R XR => m Γ (fun t Γ1 => vwM m' Γ1 (fun e Γ2 => t.vw fun d => op d e fun t => R t Γ2) XR) XR

section
variable {X : Cx} {W : WX}
def FldOk (K : PySem.W.Frag) (Cs : List Addr) (f : Str) : Prop := ∀ C ∈ Cs, Cls K C ∧ NoAttr K C f
/-- what an operand's expression is -/
inductive VO (X : Cx) (W : WX) : Expr → Opr → Prop
  | nm {e i} : PE X e (tVar i) → VO X W e (.nm i)
  | fl {e i Cs f} : FldOk X.K Cs f → PE X e (tFld X.K (tVar i) f) → VO X W e (.fl i Cs f)
  | ex {e m} : VE X W e m → VO X W e (.ex m)
theorem vo_nm (i : Nat) {x : Str} {pos : Pos} (hN : X.N[i]? = some x := by rfl) (hv : Vis X.env.scope x := by first | exact Or.inl rfl | exact Or.inr (Or.inl rfl) | exact Or.inr (Or.inr rfl)) (hd : (x == ("__debug__" : Str)) = false := by decide)
    (hcd : (x == ("__classdict__" : Str)) = false := by decide) : VO X W (.Name x pos) (.nm i) := .nm (pe_var hN hv hd hcd)
theorem vo_at (i : Nat) {Cs : List Addr} {x f : Str} {p pos : Pos} (hc : FldOk X.K Cs f) (hN : X.N[i]? = some x := by rfl) (hv : Vis X.env.scope x := by first | exact Or.inl rfl | exact Or.inr (Or.inl rfl) | exact Or.inr (Or.inr rfl)) (hd : (x == ("__debug__" : Str)) = false := by decide)
    (hcd : (x == ("__classdict__" : Str)) = false := by decide) (hb : attributeBase (.Name x p) f X.env (eval (.Name x p) X.env) = eval (.Name x p) X.env := by rfl) : VO X W (.Attribute (.Name x p) f pos) (.fl i Cs f) := .fl hc (pe_fld (pe_var hN hv hd hcd) hb)

theorem slV_at {K : PySem.W.Frag} {Z H : Hp} {Γ : Sl} {σ : St} {F : List Addr} (rs : Rsl K Z H Γ σ F) {i : Nat} {k : D → Prop} (h : slV Γ i k) : ∃ v d, σ[i]? = some (some v) ∧ Vw K Z H d v ∧ k d := by
  unfold slV at h
  split at h
  · rename_i t e
    obtain ⟨v, G, ev, rp, _⟩ := rs.at e
    obtain ⟨d, h1, h2⟩ := T.vw_ex h
    exact ⟨v, d, ev, rp.view h1, h2⟩
  · exact h.elim
theorem atV_at {K : PySem.W.Frag} {Z H : Hp} {Γ : Sl} {σ : St} {F : List Addr} (hs : Same Z H) (rs : Rsl K Z H Γ σ F) {i : Nat} {Cs : List Addr} {f : Str} (hc : FldOk K Cs f) {k : D → Prop} (h : atV Γ i Cs f k) :
    ∃ v w d, σ[i]? = some (some v) ∧ Vw K Z H d w ∧ k d ∧ ∃ (a C dx : Addr) (fs : List (Str × V)), v = .ref a ∧ H a = some (.ins C dx fs) ∧ Cls K C ∧ NoAttr K C f ∧ fs.lookup f = some w := by
  unfold atV at h
  split at h
  · rename_i C fs e
    obtain ⟨v, G, ev, rp, _⟩ := rs.at e
    obtain ⟨hC, h⟩ := h
    cases rp with
    | bo h1 h2 h3 h4 h5 =>
      split at h
      · rename_i t et
        obtain ⟨d, g1, g2⟩ := T.vw_ex h
        obtain ⟨w, G', ew, rw', _⟩ := Rps.lookup h3 h4 et
        exact ⟨_, w, d, ev, rw'.view g1, g2, _, _, _, _, rfl, h1, (hc _ hC).1, (hc _ hC).2, ew⟩
      · exact h.elim
  · rename_i C fs e
    obtain ⟨v, G, ev, rp, _⟩ := rs.at e
    obtain ⟨hC, h⟩ := h
    cases rp with
    | frz r =>
      cases r with
      | obj h1 h2 h3 =>
        split at h
        · rename_i d et
          obtain ⟨w, ew, rw'⟩ := Rzs.lookup h2 h3 et
          exact ⟨_, w, d, ev, .rz rw', h, _, _, _, _, rfl, hs _ _ h1, (hc _ hC).1, (hc _ hC).2, ew⟩
        · exact h.elim
  · exact h.elim

theorem snd_o1 {e : Expr} {o : Opr} {op : D → (T → Prop) → Prop} {r : V → Hp → VK → Prop} (h : VO X W e o)
    (hr : ∀ Z H d v R Q, Same Z H → Vw X.K Z H d v → op d R → PK X.K Z H R Q → r v H Q) : ∃ t, PE X e t ∧ Snd X.K W (fun σ H Q => t σ H fun x H1 => r x H1 Q) (mO1 op o) := by
  cases h with
  | @nm i pe =>
    refine ⟨_, pe, fun Z H σ Γ F R XR Q hs rs m k x => ?_⟩
    obtain ⟨v, d, ev, vw, q⟩ := slV_at rs m
    exact ⟨v, ev, hr Z H d v _ Q hs vw q (k.ofP rs)⟩
  | @fl i Cs f hc pe =>
    refine ⟨_, pe, fun Z H σ Γ F R XR Q hs rs m k x => ?_⟩
    obtain ⟨v, w, d, ev, vw, q, a, C, dx, fs, e1, e2, e3, e4, e5⟩ := atV_at hs rs hc m
    exact ⟨v, ev, a, C, dx, fs, w, e1, e2, e3, e4, e5, hr Z H d w _ Q hs vw q (k.ofP rs)⟩
  | @ex m ve =>
    obtain ⟨t, pe, se⟩ := ve.ex
    refine ⟨_, pe, fun Z H σ Γ F R XR Q hs rs m k x => ?_⟩
    refine se Z H σ Γ F _ XR _ hs rs m (fun Z1 H1 Γ1 F1 t v G s1 e1 r1 p1 n1 q1 => ?_) x
    obtain ⟨d, g1, g2⟩ := T.vw_ex q1
    exact hr Z1 H1 d v _ Q s1 (p1.view g1) g2 (k.ofPE (e1.sub fun _ h => List.mem_append_left _ h) r1)

theorem snd_o2 {e e' : Expr} {o o' : Opr} {op : D → D → (T → Prop) → Prop} {r : V → V → Hp → VK → Prop} (h : VO X W e o) (h' : VO X W e' o')
    (hr : ∀ Z H d v d' v' R Q, Same Z H → Vw X.K Z H d v → Vw X.K Z H d' v' → op d d' R → PK X.K Z H R Q → r v v' H Q) :
    ∃ t t', PE X e t ∧ PE X e' t' ∧ Snd X.K W (fun σ H Q => t σ H fun x H1 => t' σ H1 fun y H2 => r x y H2 Q) (mO2 op o o') := by
  cases h with
  | @nm i pe =>
    cases h' with
    | @nm j pe' =>
      refine ⟨_, _, pe, pe', fun Z H σ Γ F R XR Q hs rs m k x => ?_⟩
      obtain ⟨v, d, ev, vw, q⟩ := slV_at rs m
      obtain ⟨v', d', ev', vw', q'⟩ := slV_at rs q
      exact ⟨v, ev, v', ev', hr Z H d v d' v' _ Q hs vw vw' q' (k.ofP rs)⟩
    | @fl j Cs f hc pe' =>
      refine ⟨_, _, pe, pe', fun Z H σ Γ F R XR Q hs rs m k x => ?_⟩
      obtain ⟨v, d, ev, vw, q⟩ := slV_at rs m
      obtain ⟨v', w, d', ev', vw', q', a, C, dx, fs, e1, e2, e3, e4, e5⟩ := atV_at hs rs hc q
      exact ⟨v, ev, v', ev', a, C, dx, fs, w, e1, e2, e3, e4, e5, hr Z H d v d' w _ Q hs vw vw' q' (k.ofP rs)⟩
    | @ex m ve =>
      obtain ⟨t, pe', se⟩ := ve.ex
      refine ⟨_, _, pe, pe', fun Z H σ Γ F R XR Q hs rs m k x => ?_⟩
      obtain ⟨v, _, ev, _, _⟩ := slV_at rs m.1
      refine ⟨v, ev, se Z H σ Γ F _ XR _ hs rs m.2 (fun Z1 H1 Γ1 F1 t' v' G s1 e1 r1 p1 n1 q1 => ?_) x⟩
      obtain ⟨d', g1, g2⟩ := T.vw_ex q1
      obtain ⟨v2, d, ev2, vw, q⟩ := slV_at r1 g2
      rw [ev] at ev2
      cases ev2
      exact hr Z1 H1 d v d' v' _ Q s1 vw (p1.view g1) q (k.ofPE (e1.sub fun _ h => List.mem_append_left _ h) r1)
  | @fl i Cs f hc pe =>
    cases h' with
    | @nm j pe' =>
      refine ⟨_, _, pe, pe', fun Z H σ Γ F R XR Q hs rs m k x => ?_⟩
      obtain ⟨v, w, d, ev, vw, q, a, C, dx, fs, e1, e2, e3, e4, e5⟩ := atV_at hs rs hc m
      obtain ⟨v', d', ev', vw', q'⟩ := slV_at rs q
      exact ⟨v, ev, a, C, dx, fs, w, e1, e2, e3, e4, e5, v', ev', hr Z H d w d' v' _ Q hs vw vw' q' (k.ofP rs)⟩
    | @fl j Cs' f' hc' pe' =>
      refine ⟨_, _, pe, pe', fun Z H σ Γ F R XR Q hs rs m k x => ?_⟩
      obtain ⟨v, w, d, ev, vw, q, a, C, dx, fs, e1, e2, e3, e4, e5⟩ := atV_at hs rs hc m
      obtain ⟨v', w', d', ev', vw', q', a', C', dx', fs', e1', e2', e3', e4', e5'⟩ := atV_at hs rs hc' q
      exact ⟨v, ev, a, C, dx, fs, w, e1, e2, e3, e4, e5, v', ev', a', C', dx', fs', w', e1', e2', e3', e4', e5', hr Z H d w d' w' _ Q hs vw vw' q' (k.ofP rs)⟩
    | @ex m ve =>
      obtain ⟨t, pe', se⟩ := ve.ex
      exact ⟨_, _, pe, pe', fun Z H σ Γ F R XR Q hs rs m k x => m.elim⟩
  | @ex m ve =>
    obtain ⟨t, pe, se⟩ := ve.ex
    cases h' with
    | @nm j pe' =>
      refine ⟨_, _, pe, pe', fun Z H σ Γ F R XR Q hs rs m k x => ?_⟩
      refine se Z H σ Γ F _ XR _ hs rs m (fun Z1 H1 Γ1 F1 t v G s1 e1 r1 p1 n1 q1 => ?_) x
      obtain ⟨d, g1, g2⟩ := T.vw_ex q1
      obtain ⟨v', d', ev', vw', q'⟩ := slV_at r1 g2
      exact ⟨v', ev', hr Z1 H1 d v d' v' _ Q s1 (p1.view g1) vw' q' (k.ofPE (e1.sub fun _ h => List.mem_append_left _ h) r1)⟩
    | @fl j Cs f hc pe' =>
      refine ⟨_, _, pe, pe', fun Z H σ Γ F R XR Q hs rs m k x => ?_⟩
      refine se Z H σ Γ F _ XR _ hs rs m (fun Z1 H1 Γ1 F1 t v G s1 e1 r1 p1 n1 q1 => ?_) x
      obtain ⟨d, g1, g2⟩ := T.vw_ex q1
      obtain ⟨v', w, d', ev', vw', q', a, C, dx, fs, e1', e2, e3, e4, e5⟩ := atV_at s1 r1 hc g2
      exact ⟨v', ev', a, C, dx, fs, w, e1', e2, e3, e4, e5, hr Z1 H1 d v d' w _ Q s1 (p1.view g1) vw' q' (k.ofPE (e1.sub fun _ h => List.mem_append_left _ h) r1)⟩
    | @ex m' ve' =>
      obtain ⟨t', pe', se'⟩ := ve'.ex
      refine ⟨_, _, pe, pe', fun Z H σ Γ F R XR Q hs rs m k x => ?_⟩
      refine se Z H σ Γ F _ XR _ hs rs m (fun Z1 H1 Γ1 F1 t v G s1 e1 r1 p1 n1 q1 => ?_) x
      refine se' Z1 H1 σ Γ1 F1 _ XR _ s1 r1 q1 (fun Z2 H2 Γ2 F2 t2 v2 G2 s2 e2 r2 p2 n2 q2 => ?_) (x.step e1)
      obtain ⟨d', g1, g2⟩ := T.vw_ex q2
      obtain ⟨d, g3, g4⟩ := T.vw_ex g2
      obtain ⟨kp, _⟩ := e2.keeps p1 n1
      exact hr Z2 H2 d v d' v2 _ Q s2 (kp.view g3) (p2.view g1) g4 (k.ofPE ((e1.tr e2).sub fun _ h => List.mem_append_left _ (List.mem_append_left _ h)) r2)
/-- an operand's view -/
def oV : Opr → Sl → (D → Sl → Prop) → XRl → Prop
  | .nm i, Γ, k, _ => slV Γ i fun d => k d Γ
  | .fl i Cs f, Γ, k, _ => atV Γ i Cs f fun d => k d Γ
  | .ex m, Γ, k, XR => vwM m Γ k XR
theorem vo_view {e : Expr} {o : Opr} (h : VO X W e o) : ∃ t, PE X e t ∧ ∀ Z H σ Γ F (k : D → Sl → Prop) XR (Q : VK), Same Z H → Rsl X.K Z H Γ σ F → oV o Γ k XR →
    (∀ Z' H' Γ' F' d v, Same Z' H' → Ext Z H F Z' H' F' → Rsl X.K Z' H' Γ' σ F' → Vw X.K Z' H' d v → k d Γ' → Q v H') → XOk X.K Z H F σ XR W → t σ H Q := by
  cases h with
  | @nm i pe =>
    refine ⟨_, pe, fun Z H σ Γ F k XR Q hs rs m q x => ?_⟩
    obtain ⟨v, d, ev, vw, g⟩ := slV_at rs m
    exact ⟨v, ev, q Z H Γ F d v hs (.refl ..) rs vw g⟩
  | @fl i Cs f hc pe =>
    refine ⟨_, pe, fun Z H σ Γ F k XR Q hs rs m q x => ?_⟩
    obtain ⟨v, w, d, ev, vw, g, a, C, dx, fs, e1, e2, e3, e4, e5⟩ := atV_at hs rs hc m
    exact ⟨v, ev, a, C, dx, fs, w, e1, e2, e3, e4, e5, q Z H Γ F d w hs (.refl ..) rs vw g⟩
  | @ex m ve =>
    obtain ⟨t, pe, se⟩ := ve.ex
    refine ⟨_, pe, fun Z H σ Γ F k XR Q hs rs m q x => ?_⟩
    refine se Z H σ Γ F _ XR _ hs rs m (fun Z1 H1 Γ1 F1 t v G s1 e1 r1 p1 n1 q1 => ?_) x
    obtain ⟨d, g1, g2⟩ := T.vw_ex q1
    exact q Z1 H1 Γ1 F1 d v s1 (e1.sub fun _ h => List.mem_append_left _ h) r1 (p1.view g1) g2
end
end VL
set_option Elab.async false
set_option linter.all false
set_option autoImplicit false
set_option maxRecDepth 100000
set_option maxHeartbeats 2000000
/-! VL4: operators, comparisons, tests, calls of built-ins by operands. -/
namespace VL
open PySem PySem.Spec L2
open PyProof.Rows hiding St

def OpV (X : Cx) (f : Value → Value → Sem Value) (op : D → D → (T → Prop) → Prop) : Prop :=
  ∃ r : R2, OpR X f r ∧ ∀ Z H d v d' v' R Q, Same Z H → Vw X.K Z H d v → Vw X.K Z H d' v' → op d d' R → PK X.K Z H R Q → r v v' H Q
def UnV (X : Cx) (f : Value → Sem Value) (op : D → (T → Prop) → Prop) : Prop :=
  ∃ r : V → Hp → VK → Prop, UnR X f r ∧ ∀ Z H d v R Q, Same Z H → Vw X.K Z H d v → op d R → PK X.K Z H R Q → r v H Q
def CallV1 (X : Cx) (f : Value) (op : D → (T → Prop) → Prop) : Prop :=
  ∃ r : List V → Hp → VK → Prop, CallR X f r ∧ ∀ Z H d v R Q, Same Z H → Vw X.K Z H d v → op d R → PK X.K Z H R Q → r [v] H Q
def CallV2 (X : Cx) (f : Value) (op : D → D → (T → Prop) → Prop) : Prop :=
  ∃ r : List V → Hp → VK → Prop, CallR X f r ∧ ∀ Z H d v d' v' R Q, Same Z H → Vw X.K Z H d v → Vw X.K Z H d' v' → op d d' R → PK X.K Z H R Q → r [v, v'] H Q
section
variable {X : Cx} {W : WX}
theorem OpV.or {f : Value → Value → Sem Value} {a b : D → D → (T → Prop) → Prop} (h : OpV X f a) (g : OpV X f b) : OpV X f (fun d e R => a d e R ∨ b d e R) := by
  obtain ⟨r, h1, h2⟩ := h
  obtain ⟨r', g1, g2⟩ := g
  exact ⟨_, h1.or g1, fun Z H d v d' v' R Q hs w w' q k => q.elim (fun q => .inl (h2 Z H d v d' v' R Q hs w w' q k)) fun q => .inr (g2 Z H d v d' v' R Q hs w w' q k)⟩
theorem CallV1.or {f : Value} {a b : D → (T → Prop) → Prop} (h : CallV1 X f a) (g : CallV1 X f b) : CallV1 X f (fun d R => a d R ∨ b d R) := by
  obtain ⟨r, h1, h2⟩ := h
  obtain ⟨r', g1, g2⟩ := g
  exact ⟨_, h1.or g1, fun Z H d v R Q hs w q k => q.elim (fun q => .inl (h2 Z H d v R Q hs w q k)) fun q => .inr (g2 Z H d v R Q hs w q k)⟩
/-! ### the forms of expressions -/
theorem ve_op {op : Operator} {o : D → D → (T → Prop) → Prop} {a b : Expr} {oa ob : Opr} {pos : Pos} (h : OpV X (binaryOp op) o) (ha : VO X W a oa) (hb : VO X W b ob) : VE X W (.BinOp a op b pos) (mO2 o oa ob) := by
  obtain ⟨r, h1, h2⟩ := h
  obtain ⟨t, t', pe, pe', sn⟩ := snd_o2 ha hb h2
  exact ⟨_, pe_op h1 pe pe', sn⟩
theorem ve_un {op : UnaryOp} {o : D → (T → Prop) → Prop} {a : Expr} {oa : Opr} {pos : Pos} (h : UnV X (unaryOp op) o) (ha : VO X W a oa) : VE X W (.UnaryOp op a pos) (mO1 o oa) := by
  obtain ⟨r, h1, h2⟩ := h
  obtain ⟨t, pe, sn⟩ := snd_o1 ha h2
  exact ⟨_, pe_un h1 pe, sn⟩
theorem ve_cmp {op : CmpOp} {o : D → D → (T → Prop) → Prop} {a b : Expr} {oa ob : Opr} {pos : Pos} (h : OpV X (compareOp op) o) (ha : VO X W a oa) (hb : VO X W b ob) (hm : behindInMarks op b = false := by first | exact nomark _ | rfl | with_unfolding_all rfl) : VE X W (.Compare a [op] [b] pos) (mO2 o oa ob) := by
  obtain ⟨r, h1, h2⟩ := h
  obtain ⟨t, t', pe, pe', sn⟩ := snd_o2 ha hb h2
  exact ⟨_, pe_cmpR h1 pe pe' hm, sn⟩
/-- a value that is a bool, as a test -/
def mTst (m : ME) : MT := fun Γ R XR => m Γ (fun t Γ' => ∃ b, t = .frz (.bl b) ∧ R b Γ') XR
theorem snd_tst {t : TE} {m : ME} (h : Snd X.K W t m) : SndT X.K W (tTest t) (mTst m) := fun Z H σ Γ F R XR Q hs rs q k x =>
  h Z H σ Γ F _ XR _ hs rs q (fun Z' H' Γ' F' r v G s1 e1 r1 p1 n1 ⟨b, eb, q1⟩ => by
    subst eb
    cases p1 with
    | frz rz => cases rz; exact ⟨b, rfl, k Z' H' Γ' F' b s1 (e1.sub fun _ h => List.mem_append_left _ h) r1 q1⟩) x
theorem vt_cmp {op : CmpOp} {o : D → D → (T → Prop) → Prop} {a b : Expr} {oa ob : Opr} {pos : Pos} (h : OpV X (compareOp op) o) (ha : VO X W a oa) (hb : VO X W b ob) (hm : behindInMarks op b = false := by first | exact nomark _ | rfl | with_unfolding_all rfl) : VT X W (.Compare a [op] [b] pos) (mTst (mO2 o oa ob)) := by
  obtain ⟨r, h1, h2⟩ := h
  obtain ⟨t, t', pe, pe', sn⟩ := snd_o2 ha hb h2
  exact ⟨_, pt_cmpR h1 pe pe' hm, snd_tst sn⟩
theorem ve_b1 {id : String} {o : D → (T → Prop) → Prop} {x : Str} {p pos : Pos} {a : Expr} {oa : Opr} (h : CallV1 X (.builtin id) o) (hg : Gl X x) (hm : X.mg x = none) (hv : bootBuiltins x = some (.builtin id)) (ha : VO X W a oa)
    (hs : starEach [a] X.env = (false, eval a X.env) :: starEach [] X.env := by rfl) (hn : x ≠ "__name__" := by decide) (hdb : (x == ("__debug__" : Str)) = false := by decide) (hpl : (backTo pos (starEach [] X.env)).any (·.1) = false := by rfl) : VE X W (.Call (.Name x p) [a] [] pos) (mO1 o oa) := by
  obtain ⟨r, h1, h2⟩ := h
  obtain ⟨t, pe, sn⟩ := snd_o1 ha h2
  exact ⟨_, pe_callB h1 hg hm hv (pa_cons pe pa_nil hs) hn hdb hs hpl, sn⟩
theorem ve_ty1 {id : String} {o : D → (T → Prop) → Prop} {x : Str} {p pos : Pos} {a : Expr} {oa : Opr} (h : CallV1 X (.type id) o) (hg : Gl X x) (hm : X.mg x = none) (hv : bootBuiltins x = some (.type id)) (ha : VO X W a oa)
    (hs : starEach [a] X.env = (false, eval a X.env) :: starEach [] X.env := by rfl) (hn : x ≠ "__name__" := by decide) (hdb : (x == ("__debug__" : Str)) = false := by decide) (hpl : (backTo pos (starEach [] X.env)).any (·.1) = false := by rfl) : VE X W (.Call (.Name x p) [a] [] pos) (mO1 o oa) := by
  obtain ⟨r, h1, h2⟩ := h
  obtain ⟨t, pe, sn⟩ := snd_o1 ha h2
  exact ⟨_, pe_callTy h1 hg hm hv (pa_cons pe pa_nil hs) hn hdb hs hpl, sn⟩
theorem ve_b2 {id : String} {o : D → D → (T → Prop) → Prop} {x : Str} {p pos : Pos} {a b : Expr} {oa ob : Opr} (h : CallV2 X (.builtin id) o) (hg : Gl X x) (hm : X.mg x = none) (hv : bootBuiltins x = some (.builtin id)) (ha : VO X W a oa) (hb : VO X W b ob)
    (hs : starEach [a, b] X.env = (false, eval a X.env) :: starEach [b] X.env := by rfl) (hs' : starEach [b] X.env = (false, eval b X.env) :: starEach [] X.env := by rfl) (hn : x ≠ "__name__" := by decide) (hdb : (x == ("__debug__" : Str)) = false := by decide) (hpl : (backTo pos (starEach [b] X.env)).any (·.1) = false := by rfl) :
    VE X W (.Call (.Name x p) [a, b] [] pos) (mO2 o oa ob) := by
  obtain ⟨r, h1, h2⟩ := h
  obtain ⟨t, t', pe, pe', sn⟩ := snd_o2 ha hb h2
  exact ⟨_, pe_callB h1 hg hm hv (pa_cons pe (pa_cons pe' pa_nil hs') hs) hn hdb hs hpl, sn⟩

/-! ### operators -/
def oInt (C : Int → Int → Prop) (g : Int → Int → Int) : D → D → (T → Prop) → Prop := fun d e R => ∃ i j, d = .int i ∧ e = .int j ∧ C i j ∧ R (.frz (.int (g i j)))
theorem opv_int {f : Value → Value → Sem Value} {C : Int → Int → Prop} {g : Int → Int → Int} (h : OpR X f (rI C fun i j => .int (g i j))) : OpV X f (oInt C g) :=
  ⟨_, h, fun Z H d v d' v' R Q hs w w' ⟨i, j, e1, e2, c, q⟩ k => by subst e1; subst e2; rw [w.intE, w'.intE]; exact ⟨i, j, rfl, rfl, c, k.frz hs (.int _) q⟩⟩
theorem opr_i0 {f : Value → Value → Sem Value} {g : Int → Int → V} (h : OpR X f (rI0 g)) : OpR X f (rI (fun _ _ => True) g) := fun pins s σ H x y v u Q I rx ry ⟨i, j, a, b, _, q⟩ => h pins s σ H x y v u Q I rx ry ⟨i, j, a, b, q⟩
def oIB (g : Int → Int → Bool) : D → D → (T → Prop) → Prop := fun d e R => ∃ i j, d = .int i ∧ e = .int j ∧ R (.frz (.bl (g i j)))
theorem opv_ib {f : Value → Value → Sem Value} {g : Int → Int → Bool} (h : OpR X f (rI0 fun i j => .bl (g i j))) : OpV X f (oIB g) :=
  ⟨_, h, fun Z H d v d' v' R Q hs w w' ⟨i, j, e1, e2, q⟩ k => by subst e1; subst e2; rw [w.intE, w'.intE]; exact ⟨i, j, rfl, rfl, k.frz hs (.bl _) q⟩⟩
abbrev oLt := oIB fun i j => decide (i < j)
abbrev oLe := oIB fun i j => decide (i ≤ j)
abbrev oGt := oIB fun i j => decide (j < i)
abbrev oGe := oIB fun i j => decide (j ≤ i)
theorem ov_lt : OpV X (compareOp .Lt) oLt := opv_ib op_lt
theorem ov_le : OpV X (compareOp .LtE) oLe := opv_ib op_le
theorem ov_gt : OpV X (compareOp .Gt) oGt := opv_ib op_gt
theorem ov_ge : OpV X (compareOp .GtE) oGe := opv_ib op_ge
abbrev oSub := oInt (fun _ _ => True) fun i j => i - j
abbrev oFdiv := oInt CDivW fun i j => i / j
abbrev oMod := oInt (fun _ j => 0 < j) fun i j => i % j
abbrev oPow := oInt CPow fun i j => i ^ j.toNat
theorem ov_sub : OpV X (binaryOp .Sub) oSub := opv_int (opr_i0 op_sub)
theorem ov_fdiv : OpV X (binaryOp .FloorDiv) oFdiv := opv_int op_fdivW
theorem ov_mod : OpV X (binaryOp .Mod) oMod := opv_int op_mod
theorem ov_pow : OpV X (binaryOp .Pow) oPow := opv_int op_pow
theorem strOk_append {a b : Str} (h : PyData.strOk a = true) (g : PyData.strOk b = true) : PyData.strOk (a ++ b) = true := by
  show ((a.cps ++ b.cps).all _) = true
  rw [Array.all_append]
  exact Bool.and_eq_true_iff.mpr ⟨h, g⟩
def oAddStr : D → D → (T → Prop) → Prop := fun d e R => ∃ a b, d = .str a ∧ e = .str b ∧ a.length + b.length ≤ sizeLine ∧ R (.frz (.str (a ++ b)))
theorem ov_addStr : OpV X (binaryOp .Add) oAddStr :=
  ⟨_, op_add_str, fun Z H d v d' v' R Q hs w w' ⟨i, j, e1, e2, c, q⟩ k => by subst e1; subst e2; rw [w.strE.1, w'.strE.1]; exact ⟨i, j, rfl, rfl, c, k.frz hs (.str _ (strOk_append w.strE.2 w'.strE.2)) q⟩⟩
def oCat : D → D → (T → Prop) → Prop := fun d e R => ∃ a b, d = .lst a ∧ e = .lst b ∧ a.length + b.length ≤ sizeLine ∧ R (.bl (a ++ b))
theorem ov_cat : OpV X (binaryOp .Add) oCat :=
  ⟨_, op_cat, fun Z H d v d' v' R Q hs w w' ⟨i, j, e1, e2, c, q⟩ k => by
    subst e1; subst e2
    obtain ⟨a, vs, rfl, h1, r1⟩ := w.lstE hs
    obtain ⟨b, ws, rfl, h2, r2⟩ := w'.lstE hs
    exact ⟨a, b, vs, ws, rfl, rfl, h1, h2, by rw [← r1.length, ← r2.length]; exact c, k.lst hs (r1.append r2) q⟩⟩
def oCatT : D → D → (T → Prop) → Prop := fun d e R => ∃ a b, d = .tup a ∧ e = .tup b ∧ a.length + b.length ≤ sizeLine ∧ R (.frz (.tup (a ++ b)))
theorem ov_catT : OpV X (binaryOp .Add) oCatT :=
  ⟨_, op_catA, fun Z H d v d' v' R Q hs w w' ⟨i, j, e1, e2, c, q⟩ k => by
    subst e1; subst e2
    obtain ⟨a, vs, rfl, h1, r1⟩ := w.tupZ
    obtain ⟨b, ws, rfl, h2, r2⟩ := w'.tupZ
    refine ⟨a, b, vs, ws, rfl, rfl, SqT.mono (rd_same hs) h1, SqT.mono (rd_same hs) h2, by rw [← r1.length, ← r2.length]; exact c, fun e => ?_, fun _ e => ?_, fun _ _ => k.tup hs (r1.append r2) q⟩
    · subst e
      cases r1
      exact k.frz hs (.tup h2 r2) q
    · subst e
      cases r2
      rw [List.append_nil] at q
      exact k.frz hs (.tup h1 r1) q⟩
def oAdd : D → D → (T → Prop) → Prop := fun d e R => oInt (fun _ _ => True) (fun i j => i + j) d e R ∨ oAddStr d e R ∨ oCat d e R ∨ oCatT d e R
theorem ov_add : OpV X (binaryOp .Add) oAdd := (opv_int (opr_i0 op_add)).or (ov_addStr.or (ov_cat.or ov_catT))
def oRep : D → D → (T → Prop) → Prop := fun d e R => ∃ a k, d = .lst a ∧ e = .int k ∧ -(2 ^ 63) ≤ k ∧ k < 2 ^ 63 ∧ a.length * k.toNat ≤ sizeLine ∧ R (.bl (List.replicate k.toNat a).flatten)
theorem rzs_rep {K : PySem.W.Frag} {Z : Hp} {ds : List D} {vs : List V} (r : Rzs K Z ds vs) : ∀ n, Rzs K Z (List.replicate n ds).flatten (List.replicate n vs).flatten
  | 0 => .nil
  | n + 1 => by
    rw [List.replicate_succ, List.replicate_succ, List.flatten_cons, List.flatten_cons]
    exact r.append (rzs_rep r n)
theorem ov_rep : OpV X (binaryOp .Mult) oRep :=
  ⟨_, op_rep, fun Z H d v d' v' R Q hs w w' ⟨i, j, e1, e2, c1, c2, c3, q⟩ k => by
    subst e1; subst e2
    obtain ⟨a, vs, rfl, h1, r1⟩ := w.lstE hs
    rw [w'.intE]
    exact ⟨a, j, vs, rfl, rfl, h1, c1, c2, by rw [← r1.length]; exact c3, k.lst hs (rzs_rep r1 _) q⟩⟩
def oMul : D → D → (T → Prop) → Prop := fun d e R => oInt CMulW (fun i j => i * j) d e R ∨ oRep d e R
theorem ov_mul : OpV X (binaryOp .Mult) oMul := (opv_int op_mulW).or ov_rep
def oNeg : D → (T → Prop) → Prop := fun d R => ∃ i, d = .int i ∧ R (.frz (.int (-i)))
theorem ov_neg : UnV X (unaryOp .USub) oNeg := ⟨_, un_neg, fun Z H d v R Q hs w ⟨i, e, q⟩ k => by subst e; rw [w.intE]; exact ⟨i, rfl, k.frz hs (.int _) q⟩⟩
/-- is None, is not None -/
def oIsN : D → D → (T → Prop) → Prop := fun d e R => e = .non ∧ R (.frz (.bl d.isNon))
def oNotN : D → D → (T → Prop) → Prop := fun d e R => e = .non ∧ R (.frz (.bl (!d.isNon)))
theorem ov_isN : OpV X (compareOp .Is) oIsN := ⟨_, op_isN, fun Z H d v d' v' R Q hs w w' ⟨e, q⟩ k => by subst e; exact ⟨w'.nonE, by rw [w.isN]; exact k.frz hs (.bl _) q⟩⟩
theorem ov_notN : OpV X (compareOp .IsNot) oNotN := ⟨_, op_notN, fun Z H d v d' v' R Q hs w w' ⟨e, q⟩ k => by subst e; exact ⟨w'.nonE, by rw [w.isN]; exact k.frz hs (.bl _) q⟩⟩
end

/-! ### equality of data -/
mutual
def D.py : D → Option PyData
  | .non => some .none
  | .bl b => some (.bool b)
  | .int i => some (.int i)
  | .str s => some (.str s)
  | .lst ds => match D.pys ds with
    | some ps => some (.list ps)
    | none => none
  | .tup ds => match D.pys ds with
    | some ps => some (.tuple ps)
    | none => none
  | _ => none
def D.pys : List D → Option (List PyData)
  | [] => some []
  | d :: ds => match D.py d, D.pys ds with
    | some p, some ps => some (p :: ps)
    | _, _ => none
end
mutual
theorem Rz.dp {K : PySem.W.Frag} {Z H : Hp} (hs : Same Z H) : ∀ {d : D} {v : V}, Rz K Z d v → ∀ {p : PyData}, d.py = some p → Dp K H v p ∧ p.canLay0 = true
  | _, _, .non, p, e => by simp only [D.py, Option.some.injEq] at e; subst e; exact ⟨.non, rfl⟩
  | _, _, .bl b, p, e => by simp only [D.py, Option.some.injEq] at e; subst e; exact ⟨.bl b, rfl⟩
  | _, _, .int i, p, e => by simp only [D.py, Option.some.injEq] at e; subst e; exact ⟨.int i, rfl⟩
  | _, _, .str s ok, p, e => by simp only [D.py, Option.some.injEq] at e; subst e; exact ⟨.str s, ok⟩
  | _, _, .ref a, p, e => by simp [D.py] at e
  | _, _, .ty n, p, e => by simp [D.py] at e
  | _, _, .scr h, p, e => by simp [D.py] at e
  | _, _, .dct h g r, p, e => by simp [D.py] at e
  | _, _, .obj h g r, p, e => by simp [D.py] at e
  | _, _, .exc0, p, e => by simp [D.py] at e
  | _, _, .exv0 h, p, e => by simp [D.py] at e
  | _, _, .exv h q g r, p, e => by simp [D.py] at e
  | _, _, .excd h g r, p, e => by simp [D.py] at e
  | .lst ds, _, .lst h r, p, e => by
    simp only [D.py] at e
    split at e
    · rename_i ps eps
      simp only [Option.some.injEq] at e
      subst e
      obtain ⟨a, b⟩ := Rzs.dp hs r eps
      exact ⟨.lst (.inl (.inl (hs _ _ h))) a, b⟩
    · cases e
  | .tup ds, _, .tup h r, p, e => by
    simp only [D.py] at e
    split at e
    · rename_i ps eps
      simp only [Option.some.injEq] at e
      subst e
      obtain ⟨a, b⟩ := Rzs.dp hs r eps
      exact ⟨.tup (SqT.mono (rd_same hs) h) a, b⟩
    · cases e
theorem Rzs.dp {K : PySem.W.Frag} {Z H : Hp} (hs : Same Z H) : ∀ {d : List D} {v : List V}, Rzs K Z d v → ∀ {p : List PyData}, D.pys d = some p → DpAll K H v p ∧ PyData.canLayAll0 p = true
  | _, _, .nil, p, e => by simp only [D.pys, Option.some.injEq] at e; subst e; exact ⟨.nil, rfl⟩
  | d :: ds, _, .cons h r, p, e => by
    simp only [D.pys] at e
    split at e
    · rename_i q qs e1 e2
      simp only [Option.some.injEq] at e
      subst e
      obtain ⟨a, b⟩ := Rz.dp hs h e1
      obtain ⟨a', b'⟩ := Rzs.dp hs r e2
      exact ⟨.cons a a', by rw [PyData.canLayAll0, b, b']; rfl⟩
    · cases e
end
theorem Vw.dp {K : PySem.W.Frag} {Z H : Hp} (hs : Same Z H) {d : D} {v : V} (w : Vw K Z H d v) {p : PyData} (e : d.py = some p) : Dp K H v p ∧ p.canLay0 = true := by
  cases w with
  | rz r => exact r.dp hs e
  | lst h r =>
    simp only [D.py] at e
    split at e
    · rename_i ps eps
      simp only [Option.some.injEq] at e
      subst e
      obtain ⟨a, b⟩ := r.dp hs eps
      exact ⟨.lst (.inl (.inl h)) a, b⟩
    · cases e
  | dct h g r => simp [D.py] at e
/-- == of data: what it takes, what it says -/
def Eqb (d : D) : Prop := ∃ p, d.py = some p ∧ p.depth ≤ 64
def eqD (d e : D) : Bool := match d.py, e.py with
  | some p, some q => PyData.eqv p q
  | _, _ => false
def oEq : D → D → (T → Prop) → Prop := fun d e R => Eqb d ∧ Eqb e ∧ R (.frz (.bl (eqD d e)))
def oNe : D → D → (T → Prop) → Prop := fun d e R => Eqb d ∧ Eqb e ∧ R (.frz (.bl (!eqD d e)))
section
variable {X : Cx} {W : WX}
theorem shaped_of {p : PyData} (h : p.canLay0 = true) (g : p.depth ≤ 64) : SeqAt.shaped p = true := by
  unfold SeqAt.shaped
  rw [h, decide_eq_true g]; rfl
theorem ov_eq (hu : X.A.units + 64 < cLine) : OpV X (compareOp .Eq) oEq := ⟨_, op_eqD hu, fun Z H d v d' v' R Q hs w w' ⟨⟨p, e1, g1⟩, ⟨p', e2, g2⟩, q⟩ k => by
  obtain ⟨a, b⟩ := w.dp hs e1
  obtain ⟨a', b'⟩ := w'.dp hs e2
  unfold eqD at q
  rw [e1, e2] at q
  exact ⟨p, p', a, a', shaped_of b g1, shaped_of b' g2, k.frz hs (.bl _) q⟩⟩
theorem ov_ne (hu : X.A.units + 64 < cLine) : OpV X (compareOp .NotEq) oNe := ⟨_, op_neD hu, fun Z H d v d' v' R Q hs w w' ⟨⟨p, e1, g1⟩, ⟨p', e2, g2⟩, q⟩ k => by
  obtain ⟨a, b⟩ := w.dp hs e1
  obtain ⟨a', b'⟩ := w'.dp hs e2
  unfold eqD at q
  rw [e1, e2] at q
  exact ⟨p, p', a, a', shaped_of b g1, shaped_of b' g2, k.frz hs (.bl _) q⟩⟩
end
end VL
set_option Elab.async false
set_option linter.all false
set_option autoImplicit false
set_option maxRecDepth 100000
set_option maxHeartbeats 2000000
/-! VL5: in, subscripts, slices, attributes; built-in calls and methods that change nothing. -/
namespace VL
open PySem PySem.Spec L2 TL
open PyProof.Rows hiding St

/-! ### texts -/
theorem strOk_iff {x : Str} : PyData.strOk x = true ↔ ∀ c ∈ x.cps.toList, c < 1114112 := by
  unfold PyData.strOk
  rw [← Array.all_toList, List.all_eq_true]
  simp
theorem strOk_tl {l : List Nat} (h : ∀ c ∈ l, c < 1114112) : PyData.strOk ⟨l.toArray⟩ = true := strOk_iff.mpr (by simpa using h)
theorem mem_joinL {S : List Nat} : ∀ {ps : List (List Nat)} {p : List Nat}, p ∈ ps → ∀ c ∈ p, c ∈ joinL S ps
  | [], _, h, _, _ => absurd h (by simp)
  | [q], p, h, c, hc => by rw [List.mem_singleton.mp h] at hc; exact hc
  | q :: q' :: r, p, h, c, hc => by
    show c ∈ q ++ (S ++ joinL S (q' :: r))
    rcases List.mem_cons.mp h with e | h
    · rw [e] at hc; exact List.mem_append_left _ hc
    · exact List.mem_append_right _ (List.mem_append_right _ (mem_joinL h c hc))
theorem of_mem_joinL {S : List Nat} : ∀ {ps : List (List Nat)} {c : Nat}, c ∈ joinL S ps → c ∈ S ∨ ∃ p ∈ ps, c ∈ p
  | [], _, h => absurd h (by simp [joinL])
  | [q], c, h => .inr ⟨q, by simp, h⟩
  | q :: q' :: r, c, h => by
    rcases List.mem_append.mp (show c ∈ q ++ (S ++ joinL S (q' :: r)) from h) with h | h
    · exact .inr ⟨q, by simp, h⟩
    · rcases List.mem_append.mp h with h | h
      · exact .inl h
      · rcases of_mem_joinL h with h | ⟨p, hp, h⟩
        · exact .inl h
        · exact .inr ⟨p, List.mem_cons_of_mem _ hp, h⟩
theorem strOk_join {y : Str} {ps : List Str} (hy : PyData.strOk y = true) (hp : ∀ p ∈ ps, PyData.strOk p = true) : PyData.strOk (Txt.join y ps) = true := by
  rw [join_eq, strOk_iff]
  intro c hc
  have hc : c ∈ tl (Str.join y ps) := hc
  rw [tl_join] at hc
  rcases of_mem_joinL hc with h | ⟨p, h1, h2⟩
  · exact strOk_iff.mp hy c h
  · obtain ⟨q, hq, e⟩ := List.mem_map.mp h1
    subst e
    exact strOk_iff.mp (hp q hq) c h2
theorem split_sub {x y p : Str} (h : p ∈ Txt.split x y) : ∀ c ∈ tl p, c ∈ tl x := fun c hc => by
  have e := PySem.StrLaws.join_split x y
  rw [← e, tl_join]
  exact mem_joinL (List.mem_map.mpr ⟨p, h, rfl⟩) c hc
theorem strOk_split {x y p : Str} (hx : PyData.strOk x = true) (h : p ∈ Txt.split x y) : PyData.strOk p = true := strOk_iff.mpr fun c hc => strOk_iff.mp hx c (split_sub h c hc)

/-! ### keys, tables, cuts -/
def D.key : D → Option Key
  | .int i => some (.inl i)
  | .str s => some (.inr s)
  | _ => none
def look {β : Type} (kvs : List (Key × β)) (k : Key) : Option β := (kvs.find? fun kv => decide (kv.1 = k)).map (·.2)
def putD {β : Type} (kvs : List (Key × β)) (k : Key) (v : β) : List (Key × β) :=
  if (kvs.any fun kv => decide (kv.1 = k)) = true then kvs.map (fun kv => if kv.1 = k then (kv.1, v) else kv) else kvs ++ [(k, v)]
def cutL {α : Type} (xs : List α) (lo hi : Option Int) : List α := (xs.drop (HT.sIx xs.length 0 lo)).take (HT.sIx xs.length xs.length hi - HT.sIx xs.length 0 lo)
theorem keyV {K : PySem.W.Frag} {Z H : Hp} {d : D} {v : V} (w : Vw K Z H d v) {k : Key} (e : d.key = some k) : v = kV k := by
  cases d with
  | int i => simp only [D.key, Option.some.injEq] at e; subst e; exact w.intE
  | str i => simp only [D.key, Option.some.injEq] at e; subst e; exact w.strE.1
  | _ => simp [D.key] at e
section
variable {K : PySem.W.Frag} {Z : Hp}
theorem rzs_look : ∀ {kvs : List (Key × D)} {kvs' : List (Key × V)}, kvs'.map (·.1) = kvs.map (·.1) → Rzs K Z (kvs.map (·.2)) (kvs'.map (·.2)) → ∀ (k : Key), (∀ d, look kvs k = some d → ∃ v, valV kvs' k = some v ∧ Rz K Z d v) ∧ (look kvs k = none → valV kvs' k = none)
  | [], [], _, _, k => ⟨fun d h => by simp [look] at h, fun _ => rfl⟩
  | [], _ :: _, e, _, _ => by simp at e
  | (k', d') :: fs, [], e, _, _ => by simp at e
  | (k', d') :: fs, (k2, v') :: fs', e, r, k => by
    simp only [List.map_cons, List.cons.injEq] at e
    obtain ⟨rfl, e⟩ := e
    simp only [List.map_cons] at r
    cases r with
    | cons h1 r =>
      by_cases hk : k2 = k
      · rw [valV_pos (p := (k2, v')) hk]
        refine ⟨fun d h => ?_, fun h => ?_⟩
        · simp [look, List.find?_cons, hk] at h
          subst h
          exact ⟨v', rfl, h1⟩
        · simp [look, List.find?_cons, hk] at h
      · rw [valV_neg (p := (k2, v')) hk]
        have ee : look ((k2, d') :: fs) k = look fs k := by simp [look, List.find?_cons, hk]
        rw [ee]
        exact rzs_look e r k
theorem rzs_putD {kvs : List (Key × D)} {kvs' : List (Key × V)} (e : kvs'.map (·.1) = kvs.map (·.1)) (r : Rzs K Z (kvs.map (·.2)) (kvs'.map (·.2))) (k : Key) {d : D} {v : V} (h : Rz K Z d v) :
    (putK kvs' k v).map (·.1) = (putD kvs k d).map (·.1) ∧ Rzs K Z ((putD kvs k d).map (·.2)) ((putK kvs' k v).map (·.2)) := by
  have any : ∀ {kvs : List (Key × D)} {kvs' : List (Key × V)}, kvs'.map (·.1) = kvs.map (·.1) → (kvs'.any fun kv => decide (kv.1 = k)) = (kvs.any fun kv => decide (kv.1 = k)) := fun {a b} e => by
    have h1 : (b.any fun kv => decide (kv.1 = k)) = ((b.map (·.1)).any fun z => decide (z = k)) := by rw [List.any_map]; rfl
    have h2 : (a.any fun kv => decide (kv.1 = k)) = ((a.map (·.1)).any fun z => decide (z = k)) := by rw [List.any_map]; rfl
    rw [h1, h2, e]
  unfold putK putD
  rw [any e]
  split
  · clear any
    have key : ∀ {kvs : List (Key × D)} {kvs' : List (Key × V)}, kvs'.map (·.1) = kvs.map (·.1) → Rzs K Z (kvs.map (·.2)) (kvs'.map (·.2)) →
        (kvs'.map fun kv => if kv.1 = k then (kv.1, v) else kv).map (·.1) = (kvs.map fun kv => if kv.1 = k then (kv.1, d) else kv).map (·.1) ∧
        Rzs K Z ((kvs.map fun kv => if kv.1 = k then (kv.1, d) else kv).map (·.2)) ((kvs'.map fun kv => if kv.1 = k then (kv.1, v) else kv).map (·.2)) := by
      intro a
      induction a with
      | nil => intro b e r; cases b with
        | nil => exact ⟨rfl, .nil⟩
        | cons _ _ => simp at e
      | cons p a ih =>
        intro b e r
        cases b with
        | nil => simp at e
        | cons q b =>
          simp only [List.map_cons, List.cons.injEq] at e
          simp only [List.map_cons] at r
          cases r with
          | cons h1 r =>
            obtain ⟨i1, i2⟩ := ih e.2 r
            simp only [List.map_cons]
            by_cases hk : q.1 = k
            · have hk' : p.1 = k := e.1 ▸ hk
              rw [if_pos hk, if_pos hk']
              exact ⟨by rw [i1, e.1], .cons h i2⟩
            · have hk' : ¬ p.1 = k := e.1 ▸ hk
              rw [if_neg hk, if_neg hk']
              exact ⟨by rw [i1, e.1], .cons h1 i2⟩
    exact key e r
  · simp only [List.map_append, List.map_cons, List.map_nil]
    exact ⟨by rw [e], r.append (.one h)⟩
theorem Rzs.cut {ds : List D} {vs : List V} (r : Rzs K Z ds vs) (lo hi : Option Int) : Rzs K Z (cutL ds lo hi) (cutV vs lo hi) := by
  unfold cutL cutV
  rw [← r.length]
  exact (r.drop _).take _
end

section
variable {X : Cx} {W : WX}
/-! ### in -/
def oInL : D → D → (T → Prop) → Prop := fun d e R => ∃ ds, e = .lst ds ∧ Eqb d ∧ Eqb e ∧ R (.frz (.bl (ds.any fun z => eqD z d)))
def oNinL : D → D → (T → Prop) → Prop := fun d e R => ∃ ds, e = .lst ds ∧ Eqb d ∧ Eqb e ∧ R (.frz (.bl (!ds.any fun z => eqD z d)))
theorem pys_any : ∀ {ds : List D} {ps : List PyData} {d : D} {p : PyData}, D.pys ds = some ps → d.py = some p → (ds.any fun z => eqD z d) = ps.any fun z => PyData.eqv z p
  | [], _, _, _, e, _ => by simp only [D.pys, Option.some.injEq] at e; subst e; rfl
  | x :: xs, ps, d, p, e, h => by
    simp only [D.pys] at e
    split at e
    · rename_i q qs e1 e2
      simp only [Option.some.injEq] at e
      subst e
      rw [List.any_cons, List.any_cons, pys_any e2 h]
      congr 1
      unfold eqD
      rw [e1, h]
    · cases e
theorem py_lst {ds : List D} {p : PyData} (e : (D.lst ds).py = some p) : ∃ ps, D.pys ds = some ps ∧ p = .list ps := by
  simp only [D.py] at e
  split at e
  · rename_i ps eps
    simp only [Option.some.injEq] at e
    exact ⟨ps, eps, e.symm⟩
  · cases e
theorem py_tup {ds : List D} {p : PyData} (e : (D.tup ds).py = some p) : ∃ ps, D.pys ds = some ps ∧ p = .tuple ps := by
  simp only [D.py] at e
  split at e
  · rename_i ps eps
    simp only [Option.some.injEq] at e
    exact ⟨ps, eps, e.symm⟩
  · cases e
theorem ov_inL (hu : X.A.units + 65 < cLine) : OpV X (compareOp .In) oInL := ⟨_, op_inD hu, fun Z H d v d' v' R Q hs w w' ⟨ds, e, ⟨p, e1, g1⟩, ⟨p', e2, g2⟩, q⟩ k => by
  subst e
  obtain ⟨ps, h1, h2⟩ := py_lst e2
  obtain ⟨a, b⟩ := w.dp hs e1
  obtain ⟨a', b'⟩ := w'.dp hs e2
  subst h2
  rw [pys_any h1 e1] at q
  exact ⟨p, ps, a, a', shaped_of b g1, shaped_of b' g2, k.frz hs (.bl _) q⟩⟩
theorem ov_ninL (hu : X.A.units + 65 < cLine) : OpV X (compareOp .NotIn) oNinL := ⟨_, op_notInD hu, fun Z H d v d' v' R Q hs w w' ⟨ds, e, ⟨p, e1, g1⟩, ⟨p', e2, g2⟩, q⟩ k => by
  subst e
  obtain ⟨ps, h1, h2⟩ := py_lst e2
  obtain ⟨a, b⟩ := w.dp hs e1
  obtain ⟨a', b'⟩ := w'.dp hs e2
  subst h2
  rw [pys_any h1 e1] at q
  exact ⟨p, ps, a, a', shaped_of b g1, shaped_of b' g2, k.frz hs (.bl _) q⟩⟩
/-- flat data -/
def D.flat : D → Bool
  | .non => true
  | .bl _ => true
  | .int _ => true
  | .str _ => true
  | _ => false
theorem flat_v {K : PySem.W.Frag} {Z : Hp} {d : D} {v : V} (r : Rz K Z d v) (h : d.flat = true) : flatV v = true := by
  cases r with
  | non => rfl
  | bl b => rfl
  | int i => rfl
  | str s ok => rfl
  | _ => cases h
theorem flat_eq {K : PySem.W.Frag} {Z : Hp} {d e : D} {v u : V} (r : Rz K Z d v) (r' : Rz K Z e u) (h : d.flat = true) (h' : e.flat = true) : eqV v u = eqD d e := by
  cases r with
  | non => cases r' with
    | non => rfl
    | bl b => rfl
    | int i => rfl
    | str s ok => rfl
    | _ => cases h'
  | bl b => cases r' with
    | non => rfl
    | bl b => rfl
    | int i => rfl
    | str s ok => rfl
    | _ => cases h'
  | int i => cases r' with
    | non => rfl
    | bl b => rfl
    | int i => rfl
    | str s ok => rfl
    | _ => cases h'
  | str s ok => cases r' with
    | non => rfl
    | bl b => rfl
    | int i => rfl
    | str s ok => rfl
    | _ => cases h'
  | _ => cases h
theorem flats {K : PySem.W.Frag} {Z : Hp} : ∀ {ds : List D} {vs : List V}, Rzs K Z ds vs → ds.all D.flat = true → vs.all flatV = true
  | [], _, .nil, _ => rfl
  | d :: ds, _, .cons h r, q => by
    rw [List.all_cons, Bool.and_eq_true] at q ⊢
    exact ⟨flat_v h q.1, flats r q.2⟩
theorem flats_any {K : PySem.W.Frag} {Z : Hp} {d : D} {v : V} (hd : Rz K Z d v) (hf : d.flat = true) : ∀ {ds : List D} {vs : List V}, Rzs K Z ds vs → ds.all D.flat = true → inV v vs = ds.any fun z => eqD z d
  | [], _, .nil, _ => rfl
  | x :: ds, _, .cons h r, q => by
    rw [List.all_cons, Bool.and_eq_true] at q
    show (eqV _ v || inV v _) = _
    rw [List.any_cons, flats_any hd hf r q.2, flat_eq h hd q.1 hf]
theorem Vw.flatZ {K : PySem.W.Frag} {Z H : Hp} {d : D} {v : V} (w : Vw K Z H d v) (h : d.flat = true) : Rz K Z d v := by
  cases w with
  | rz r => exact r
  | lst _ _ => cases h
  | dct _ _ _ => cases h
def oInT : D → D → (T → Prop) → Prop := fun d e R => ∃ ds, e = .tup ds ∧ d.flat = true ∧ ds.all D.flat = true ∧ R (.frz (.bl (ds.any fun z => eqD z d)))
def oNinT : D → D → (T → Prop) → Prop := fun d e R => ∃ ds, e = .tup ds ∧ d.flat = true ∧ ds.all D.flat = true ∧ R (.frz (.bl (!ds.any fun z => eqD z d)))
theorem ov_inT : OpV X (compareOp .In) oInT := ⟨_, op_in_seq, fun Z H d v d' v' R Q hs w w' ⟨ds, e, f1, f2, q⟩ k => by
  subst e
  obtain ⟨a, vs, rfl, h1, r1⟩ := w'.tupE hs
  have hz := w.flatZ f1
  rw [← flats_any hz f1 r1 f2] at q
  exact ⟨a, vs, rfl, .inr h1, flat_v hz f1, flats r1 f2, k.frz hs (.bl _) q⟩⟩
theorem ov_ninT : OpV X (compareOp .NotIn) oNinT := ⟨_, op_notIn_seq, fun Z H d v d' v' R Q hs w w' ⟨ds, e, f1, f2, q⟩ k => by
  subst e
  obtain ⟨a, vs, rfl, h1, r1⟩ := w'.tupE hs
  have hz := w.flatZ f1
  rw [← flats_any hz f1 r1 f2] at q
  exact ⟨a, vs, rfl, .inr h1, flat_v hz f1, flats r1 f2, k.frz hs (.bl _) q⟩⟩
/-- a sign in a text -/
def oInS : D → D → (T → Prop) → Prop := fun d e R => ∃ c z, d = .str ⟨#[c]⟩ ∧ e = .str z ∧ R (.frz (.bl (decide (c ∈ z.cps.toList))))
def oNinS : D → D → (T → Prop) → Prop := fun d e R => ∃ c z, d = .str ⟨#[c]⟩ ∧ e = .str z ∧ R (.frz (.bl (!decide (c ∈ z.cps.toList))))
theorem ov_inS : OpV X (compareOp .In) oInS := ⟨_, op_in_sign, fun Z H d v d' v' R Q hs w w' ⟨c, z, e1, e2, q⟩ k => by subst e1; subst e2; exact ⟨c, z, w.strE.1, w'.strE.1, k.frz hs (.bl _) q⟩⟩
theorem ov_ninS : OpV X (compareOp .NotIn) oNinS := ⟨_, op_notIn_sign, fun Z H d v d' v' R Q hs w w' ⟨c, z, e1, e2, q⟩ k => by subst e1; subst e2; exact ⟨c, z, w.strE.1, w'.strE.1, k.frz hs (.bl _) q⟩⟩
/-- a key in a dict -/
def oInD : D → D → (T → Prop) → Prop := fun d e R => ∃ key kvs, d.key = some key ∧ e = .dct kvs ∧ R (.frz (.bl (look kvs key).isSome))
def oNinD : D → D → (T → Prop) → Prop := fun d e R => ∃ key kvs, d.key = some key ∧ e = .dct kvs ∧ R (.frz (.bl (!(look kvs key).isSome)))
theorem opr_inD (hu : X.A.units + 1 < cLine) : OpR X (compareOp .In) (fun y x H Q => ∃ a o, x = .ref a ∧ DGet H a y o ∧ Q (.bl o.isSome) H) := fun pins s σ H y x u v Q I ry rx ⟨a, o, e, g, q⟩ => by
  subst e
  cases rx
  exact d_in hu I g ry fun s' I' => ⟨.bl o.isSome, H, I', rfl, q⟩
theorem opr_ninD (hu : X.A.units + 1 < cLine) : OpR X (compareOp .NotIn) (fun y x H Q => ∃ a o, x = .ref a ∧ DGet H a y o ∧ Q (.bl (!o.isSome)) H) := fun pins s σ H y x u v Q I ry rx ⟨a, o, e, g, q⟩ => by
  subst e
  cases rx
  exact d_notIn hu I g ry fun s' I' => ⟨.bl (!o.isSome), H, I', rfl, q⟩
theorem dget_look {K : PySem.W.Frag} {Z H : Hp} (hs : Same Z H) {kvs : List (Key × D)} {v : V} (w : Vw K Z H (.dct kvs) v) (k : Key) : ∃ a o, v = .ref a ∧ DGet H a (kV k) o ∧ o.isSome = (look kvs k).isSome ∧ (∀ d, look kvs k = some d → ∃ u, o = some u ∧ Rz K Z d u) ∧ (look kvs k = none → o = none) := by
  obtain ⟨a, kvs', rfl, h1, h2, h3⟩ := w.dctE hs
  obtain ⟨g1, g2⟩ := rzs_look h2 h3 k
  refine ⟨a, valV kvs' k, rfl, .inl ⟨kvs', k, h1, rfl, rfl⟩, ?_, g1, g2⟩
  cases e : look kvs k with
  | none => rw [g2 e]; rfl
  | some d => obtain ⟨u, hu, _⟩ := g1 d e; rw [hu]; rfl
theorem ov_inD (hu : X.A.units + 1 < cLine) : OpV X (compareOp .In) oInD := ⟨_, opr_inD hu, fun Z H d v d' v' R Q hs w w' ⟨key, kvs, e1, e2, q⟩ k => by
  subst e2
  obtain ⟨a, o, rfl, g, e, _⟩ := dget_look hs w' key
  rw [← keyV w e1] at g
  rw [← e] at q
  exact ⟨a, o, rfl, g, k.frz hs (.bl _) q⟩⟩
theorem ov_ninD (hu : X.A.units + 1 < cLine) : OpV X (compareOp .NotIn) oNinD := ⟨_, opr_ninD hu, fun Z H d v d' v' R Q hs w w' ⟨key, kvs, e1, e2, q⟩ k => by
  subst e2
  obtain ⟨a, o, rfl, g, e, _⟩ := dget_look hs w' key
  rw [← keyV w e1] at g
  rw [← e] at q
  exact ⟨a, o, rfl, g, k.frz hs (.bl _) q⟩⟩
def oIn : D → D → (T → Prop) → Prop := fun d e R => oInL d e R ∨ oInT d e R ∨ oInS d e R ∨ oInD d e R
def oNin : D → D → (T → Prop) → Prop := fun d e R => oNinL d e R ∨ oNinT d e R ∨ oNinS d e R ∨ oNinD d e R
theorem ov_in (hu : X.A.units + 65 < cLine) : OpV X (compareOp .In) oIn := (ov_inL hu).or (ov_inT.or (ov_inS.or (ov_inD (by omega))))
theorem ov_nin (hu : X.A.units + 65 < cLine) : OpV X (compareOp .NotIn) oNin := (ov_ninL hu).or (ov_ninT.or (ov_ninS.or (ov_ninD (by omega))))

/-! ### subscripts -/
def IxV (X : Cx) (op : D → D → (T → Prop) → Prop) : Prop :=
  ∃ r : R2, IxR X r ∧ ∀ Z H d v d' v' R Q, Same Z H → Vw X.K Z H d v → Vw X.K Z H d' v' → op d d' R → PK X.K Z H R Q → r v v' H Q
theorem IxV.or {a b : D → D → (T → Prop) → Prop} (h : IxV X a) (g : IxV X b) : IxV X (fun d e R => a d e R ∨ b d e R) := by
  obtain ⟨r, h1, h2⟩ := h
  obtain ⟨r', g1, g2⟩ := g
  exact ⟨_, h1.or g1, fun Z H d v d' v' R Q hs w w' q k => q.elim (fun q => .inl (h2 Z H d v d' v' R Q hs w w' q k)) fun q => .inr (g2 Z H d v d' v' R Q hs w w' q k)⟩
theorem ve_ix {o : D → D → (T → Prop) → Prop} {a b : Expr} {oa ob : Opr} {pos : Pos} (h : IxV X o) (ha : VO X W a oa) (hb : VO X W b ob) (hs : PlainIx b := by exact fun _ _ => rfl) : VE X W (.Subscript a b pos) (mO2 o oa ob) := by
  obtain ⟨r, h1, h2⟩ := h
  obtain ⟨t, t', pe, pe', sn⟩ := snd_o2 ha hb h2
  exact ⟨_, pe_ix h1 pe pe' hs, sn⟩
def oIxL : D → D → (T → Prop) → Prop := fun d e R => ∃ ds i x, d = .lst ds ∧ e = .int i ∧ atI ds i = some x ∧ R (.frz x)
def oIxT : D → D → (T → Prop) → Prop := fun d e R => ∃ ds i x, d = .tup ds ∧ e = .int i ∧ atI ds i = some x ∧ R (.frz x)
def oIxS : D → D → (T → Prop) → Prop := fun d e R => ∃ z i c, d = .str z ∧ e = .int i ∧ z.length ≤ sizeLine ∧ atI z.cps.toList i = some c ∧ R (.frz (.str ⟨#[c]⟩))
def oIxR : D → D → (T → Prop) → Prop := fun d e R => ∃ ns i x, d = .scr ns ∧ e = .int i ∧ atI ns i = some x ∧ R (.frz (.int x))
def oIxD : D → D → (T → Prop) → Prop := fun d e R => ∃ kvs k x, d = .dct kvs ∧ e.key = some k ∧ look kvs k = some x ∧ R (.frz x)
theorem rzs_atI {K : PySem.W.Frag} {Z : Hp} {ds : List D} {vs : List V} (r : Rzs K Z ds vs) {i : Int} {x : D} (h : atI ds i = some x) : ∃ v, atI vs i = some v ∧ Rz K Z x v := by
  unfold atI at h ⊢
  rw [← r.length]
  cases e : ixN ds.length i with
  | none => rw [e] at h; cases h
  | some j => rw [e] at h; exact r.get h
theorem map_atI {α β : Type} (f : α → β) (xs : List α) {i : Int} {x : α} (h : atI xs i = some x) : atI (xs.map f) i = some (f x) := by
  unfold atI at h ⊢
  rw [List.length_map]
  cases e : ixN xs.length i with
  | none => rw [e] at h; cases h
  | some j =>
    rw [e] at h
    show (xs.map f)[j]? = _
    rw [List.getElem?_map, show xs[j]? = some x from h]
    rfl
theorem mem_atI {α : Type} {xs : List α} {i : Int} {x : α} (h : atI xs i = some x) : x ∈ xs := by
  unfold atI at h
  cases e : ixN xs.length i with
  | none => rw [e] at h; cases h
  | some j => rw [e] at h; exact List.mem_of_getElem? (show xs[j]? = some x from h)
theorem ixv_L : IxV X oIxL := ⟨_, ix_list, fun Z H d v d' v' R Q hs w w' ⟨ds, i, x, e1, e2, h, q⟩ k => by
  subst e1; subst e2
  obtain ⟨a, vs, rfl, h1, r1⟩ := w.lstE hs
  obtain ⟨u, g, rz⟩ := rzs_atI r1 h
  exact ⟨a, vs, i, u, rfl, w'.intE, .inl (.inl h1), g, k.frz hs rz q⟩⟩
theorem ixv_T : IxV X oIxT := ⟨_, ix_tup, fun Z H d v d' v' R Q hs w w' ⟨ds, i, x, e1, e2, h, q⟩ k => by
  subst e1; subst e2
  obtain ⟨a, vs, rfl, h1, r1⟩ := w.tupE hs
  obtain ⟨u, g, rz⟩ := rzs_atI r1 h
  exact ⟨a, vs, i, u, rfl, w'.intE, h1, g, k.frz hs rz q⟩⟩
theorem ixv_R : IxV X oIxR := ⟨_, ix_list, fun Z H d v d' v' R Q hs w w' ⟨ds, i, x, e1, e2, h, q⟩ k => by
  subst e1; subst e2
  obtain ⟨a, rfl, h1⟩ := w.scrE hs
  exact ⟨a, _, i, .int x, rfl, w'.intE, h1, map_atI V.int ds h, k.frz hs (.int _) q⟩⟩
theorem ixv_S : IxV X oIxS := ⟨_, ix_str, fun Z H d v d' v' R Q hs w w' ⟨z, i, x, e1, e2, hz, h, q⟩ k => by
  subst e1; subst e2
  refine ⟨z, i, x, w.strE.1, w'.intE, hz, h, k.frz hs (.str _ ?_) q⟩
  exact strOk_iff.mpr fun c hc => by
    have e : c = x := by simpa using hc
    rw [e]
    exact strOk_iff.mp w.strE.2 x (mem_atI h)⟩
theorem ixr_D (hu : X.A.units + 1 < cLine) : IxR X (fun x y H Q => ∃ a v, x = .ref a ∧ DGet H a y (some v) ∧ Q v H) := fun value slice pins s σ H x y v u Q I rx ry ⟨a, z, e, g, q⟩ hs => by
  subst e
  cases rx
  exact tail_any (dict_typeIs I g) PySem.F.slot_dict_getitem.lookup (d_getItem hu I g ry fun w' s3 I3 rw' => ⟨z, H, I3, rw', q⟩) hs
theorem ixv_D (hu : X.A.units + 1 < cLine) : IxV X oIxD := ⟨_, ixr_D hu, fun Z H d v d' v' R Q hs w w' ⟨kvs, key, x, e1, e2, h, q⟩ k => by
  subst e1
  obtain ⟨a, o, rfl, g, _, g2, _⟩ := dget_look hs w key
  obtain ⟨u, rfl, rz⟩ := g2 x h
  rw [← keyV w' e2] at g
  exact ⟨a, u, rfl, g, k.frz hs rz q⟩⟩
def oIx : D → D → (T → Prop) → Prop := fun d e R => oIxL d e R ∨ oIxT d e R ∨ oIxS d e R ∨ oIxR d e R ∨ oIxD d e R
theorem ixv (hu : X.A.units + 1 < cLine) : IxV X oIx := ixv_L.or (ixv_T.or (ixv_S.or (ixv_R.or (ixv_D hu))))

/-! ### slices -/
abbrev MO := Sl → (Option Int → Sl → Prop) → XRl → Prop
def KOkO (K : PySem.W.Frag) (Z H : Hp) (F : List Addr) (σ : St) (R : Option Int → Sl → Prop) (Q : Option Int → Hp → Prop) : Prop :=
  ∀ Z' H' Γ' F' b, Same Z' H' → Ext Z H F Z' H' F' → Rsl K Z' H' Γ' σ F' → R b Γ' → Q b H'
def SndO (K : PySem.W.Frag) (W : WX) (t : TO) (m : MO) : Prop :=
  ∀ Z H σ Γ F R XR Q, Same Z H → Rsl K Z H Γ σ F → m Γ R XR → KOkO K Z H F σ R Q → XOk K Z H F σ XR W → t σ H Q
structure VPo (X : Cx) (W : WX) (e : Option Expr) (m : MO) : Prop where
  ex : ∃ t, PO X e t ∧ SndO X.K W t m
def mNo : MO := fun Γ R _ => R none Γ
def mSo (m : ME) : MO := fun Γ R XR => m Γ (fun t Γ' => ∃ i, t = .frz (.int i) ∧ R (some i) Γ') XR
theorem vp_none : VPo X W none mNo := ⟨_, po_none, fun Z H σ Γ F R XR Q hs rs m k x => k Z H Γ F none hs (.refl ..) rs m⟩
theorem vp_some {e : Expr} {m : ME} (h : VE X W e m) : VPo X W (some e) (mSo m) := by
  obtain ⟨t, pe, se⟩ := h.ex
  refine ⟨_, po_some pe, fun Z H σ Γ F R XR Q hs rs q k x => ?_⟩
  exact se Z H σ Γ F _ XR _ hs rs q (fun Z' H' Γ' F' r v G s1 e1 r1 p1 n1 ⟨i, eb, q1⟩ => by
    subst eb
    cases p1 with
    | frz rz => cases rz; exact ⟨i, rfl, k Z' H' Γ' F' _ s1 (e1.sub fun _ h => List.mem_append_left _ h) r1 q1⟩) x
def SlV (X : Cx) (op : D → Option Int → Option Int → (T → Prop) → Prop) : Prop :=
  ∃ r : V → Option Int → Option Int → Hp → VK → Prop, SlR X r ∧ ∀ Z H d v lo hi R Q, Same Z H → Vw X.K Z H d v → op d lo hi R → PK X.K Z H R Q → r v lo hi H Q
theorem SlV.or {a b : D → Option Int → Option Int → (T → Prop) → Prop} (h : SlV X a) (g : SlV X b) : SlV X (fun d l u R => a d l u R ∨ b d l u R) := by
  obtain ⟨r, h1, h2⟩ := h
  obtain ⟨r', g1, g2⟩ := g
  exact ⟨_, h1.or g1, fun Z H d v lo hi R Q hs w q k => q.elim (fun q => .inl (h2 Z H d v lo hi R Q hs w q k)) fun q => .inr (g2 Z H d v lo hi R Q hs w q k)⟩
def mSlc (op : D → Option Int → Option Int → (T → Prop) → Prop) : Opr → MO → MO → ME
  | .nm i, lo, hi => fun Γ R XR => slV Γ i (fun _ => True) ∧ lo Γ (fun a Γ1 => hi Γ1 (fun b Γ2 => slV Γ2 i fun d => op d a b fun t => R t Γ2) XR) XR
  | .ex m, lo, hi => fun Γ R XR => m Γ (fun t Γ1 => lo Γ1 (fun a Γ2 => hi Γ2 (fun b Γ3 => t.vw fun d => op d a b fun t => R t Γ3) XR) XR) XR
  | .fl _ _ _, _, _ => fun _ _ _ => False
theorem ve_slice {op : D → Option Int → Option Int → (T → Prop) → Prop} {e : Expr} {lo hi : Option Expr} {oe : Opr} {ml mh : MO} {p2 pos : Pos} (h : SlV X op) (he : VO X W e oe) (hl : VPo X W lo ml) (hh : VPo X W hi mh) : VE X W (.Subscript e (.Slice lo hi none p2) pos) (mSlc op oe ml mh) := by
  obtain ⟨r, h1, h2⟩ := h
  obtain ⟨tl, pl, sl⟩ := hl.ex
  obtain ⟨th, ph, sh⟩ := hh.ex
  cases he with
  | @nm i pe =>
    refine ⟨_, pe_slice h1 pe pl ph, fun Z H σ Γ F R XR Q hs rs m k x => ?_⟩
    obtain ⟨v, _, ev, _, _⟩ := slV_at rs m.1
    refine ⟨v, ev, sl Z H σ Γ F _ XR _ hs rs m.2 (fun Z1 H1 Γ1 F1 a s1 e1 r1 q1 => ?_) x⟩
    refine sh Z1 H1 σ Γ1 F1 _ XR _ s1 r1 q1 (fun Z2 H2 Γ2 F2 b s2 e2 r2 q2 => ?_) (x.step0 e1)
    obtain ⟨v2, d, ev2, vw, q⟩ := slV_at r2 q2
    rw [ev] at ev2
    cases ev2
    exact h2 Z2 H2 d v a b _ Q s2 vw q (k.ofPE (e1.trans e2) r2)
  | @ex m ve =>
    obtain ⟨t, pe, se⟩ := ve.ex
    refine ⟨_, pe_slice h1 pe pl ph, fun Z H σ Γ F R XR Q hs rs m k x => ?_⟩
    refine se Z H σ Γ F _ XR _ hs rs m (fun Z0 H0 Γ0 F0 t v G s0 e0 r0 p0 n0 q0 => ?_) x
    refine sl Z0 H0 σ Γ0 F0 _ XR _ s0 r0 q0 (fun Z1 H1 Γ1 F1 a s1 e1 r1 q1 => ?_) (x.step e0)
    refine sh Z1 H1 σ Γ1 F1 _ XR _ s1 r1 q1 (fun Z2 H2 Γ2 F2 b s2 e2 r2 q2 => ?_) ((x.step e0).step0 e1)
    obtain ⟨d, g1, g2⟩ := T.vw_ex q2
    obtain ⟨kp, _⟩ := (e1.trans e2).keeps p0 n0
    exact h2 Z2 H2 d v a b _ Q s2 (kp.view g1) g2 (k.ofPE ((e0.tr (e1.trans e2)).sub fun _ h => List.mem_append_left _ h) r2)
  | @fl i Cs f hc pe => exact ⟨_, pe_slice h1 pe pl ph, fun Z H σ Γ F R XR Q hs rs m k x => m.elim⟩
def oSlL : D → Option Int → Option Int → (T → Prop) → Prop := fun d lo hi R => ∃ ds, d = .lst ds ∧ R (.bl (cutL ds lo hi))
def oSlT : D → Option Int → Option Int → (T → Prop) → Prop := fun d lo hi R => ∃ ds, d = .tup ds ∧ R (.frz (.tup (cutL ds lo hi)))
def oSlS : D → Option Int → Option Int → (T → Prop) → Prop := fun d lo hi R => ∃ z, d = .str z ∧ z.length ≤ sizeLine ∧ R (.frz (.str (cutS z lo hi)))
def oSlR : D → Option Int → Option Int → (T → Prop) → Prop := fun d lo hi R => ∃ ns, d = .scr ns ∧ R (.bl ((cutL ns lo hi).map D.int))
theorem slv_L : SlV X oSlL := ⟨_, sl_list, fun Z H d v lo hi R Q hs w ⟨ds, e, q⟩ k => by
  subst e
  obtain ⟨a, vs, rfl, h1, r1⟩ := w.lstE hs
  exact ⟨a, vs, rfl, .inl (.inl h1), k.lst hs (r1.cut lo hi) q⟩⟩
theorem cutL_map {α β : Type} (f : α → β) (xs : List α) (lo hi : Option Int) : cutL (xs.map f) lo hi = (cutL xs lo hi).map f := by
  unfold cutL
  rw [List.length_map, List.map_take, List.map_drop]
theorem slv_R : SlV X oSlR := ⟨_, sl_list, fun Z H d v lo hi R Q hs w ⟨ds, e, q⟩ k => by
  subst e
  obtain ⟨a, rfl, h1⟩ := w.scrE hs
  refine ⟨a, _, rfl, h1, ?_⟩
  rw [show cutV (ds.map V.int) lo hi = (cutL ds lo hi).map V.int from cutL_map V.int ds lo hi]
  exact k.lst hs (Rzs.ofInts _) q⟩
theorem cut_whole {α : Type} {xs : List α} {lo hi : Option Int} (h : HT.sIx xs.length 0 lo = 0 ∧ HT.sIx xs.length xs.length hi = xs.length) : cutL xs lo hi = xs := by
  unfold cutL
  rw [h.1, h.2, List.drop_zero, Nat.sub_zero, List.take_length]
theorem slv_T : SlV X oSlT := ⟨_, sl_tupA, fun Z H d v lo hi R Q hs w ⟨ds, e, q⟩ k => by
  subst e
  obtain ⟨a, vs, rfl, h1, r1⟩ := w.tupZ
  refine ⟨a, vs, rfl, SqT.mono (rd_same hs) h1, fun e => ?_, fun _ => k.tup hs (r1.cut lo hi) q⟩
  rw [← r1.length] at e
  rw [cut_whole e] at q
  exact k.frz hs (.tup h1 r1) q⟩
theorem slv_S : SlV X oSlS := ⟨_, sl_str, fun Z H d v lo hi R Q hs w ⟨z, e, hz, q⟩ k => by
  subst e
  refine ⟨z, w.strE.1, hz, k.frz hs (.str _ ?_) q⟩
  refine strOk_tl fun c hc => ?_
  exact strOk_iff.mp w.strE.2 c (List.mem_of_mem_drop (List.mem_of_mem_take hc))⟩
def oSl : D → Option Int → Option Int → (T → Prop) → Prop := fun d lo hi R => oSlL d lo hi R ∨ oSlT d lo hi R ∨ oSlS d lo hi R ∨ oSlR d lo hi R
theorem slv : SlV X oSl := slv_L.or (slv_T.or (slv_S.or slv_R))

/-! ### attributes -/
def atF (Γ : Sl) (i : Nat) (Cs : List Addr) (f : Str) (k : D → Prop) : Prop := match Γ[i]? with
  | some (some (.bo C fs)) => C ∈ Cs ∧ match fs.lookup f with
    | some (.frz d) => k d
    | _ => False
  | some (some (.frz (.obj C fs))) => C ∈ Cs ∧ match fs.lookup f with
    | some d => k d
    | none => False
  | _ => False
def T.fld (t : T) (Cs : List Addr) (f : Str) (k : D → Prop) : Prop := match t with
  | .bo C fs => C ∈ Cs ∧ match fs.lookup f with
    | some (.frz d) => k d
    | _ => False
  | .frz (.obj C fs) => C ∈ Cs ∧ match fs.lookup f with
    | some d => k d
    | none => False
  | _ => False
def mAtr (Cs : List Addr) (f : Str) : Opr → ME
  | .nm i => fun Γ R _ => match Γ[i]? with
    | some (some t) => t.fld Cs f fun d => R (.frz d) Γ
    | _ => False
  | .ex m => fun Γ R XR => m Γ (fun t Γ' => t.fld Cs f fun d => R (.frz d) Γ') XR
  | .fl _ _ _ => fun _ _ _ => False
theorem fld_at {K : PySem.W.Frag} {Z H : Hp} (hs : Same Z H) {t : T} {v : V} {G : List Addr} (rp : Rp K Z H t v G) {Cs : List Addr} {f : Str} (hc : FldOk K Cs f) {k : D → Prop} (h : t.fld Cs f k) :
    ∃ (w : V) (d : D) (a C dx : Addr) (fs : List (Str × V)), v = .ref a ∧ H a = some (.ins C dx fs) ∧ Cls K C ∧ NoAttr K C f ∧ fs.lookup f = some w ∧ Rz K Z d w ∧ k d := by
  cases rp with
  | frz r =>
    cases r with
    | @obj C dx fs fs' a h1 h2 h3 =>
      have hC : C ∈ Cs := h.1
      have h' : match fs.lookup f with
        | some d => k d
        | none => False := h.2
      cases et : fs.lookup f with
      | none => rw [et] at h'; exact h'.elim
      | some d =>
        rw [et] at h'
        obtain ⟨w, ew, rw'⟩ := Rzs.lookup h2 h3 et
        exact ⟨w, d, _, _, _, _, rfl, hs _ _ h1, (hc _ hC).1, (hc _ hC).2, ew, rw', h'⟩
    | _ => exact h.elim
  | @bo C dx fs fs' a F h1 h2 h3 h4 h5 =>
    have hC : C ∈ Cs := h.1
    have h' : match fs.lookup f with
      | some (.frz d) => k d
      | _ => False := h.2
    cases et : fs.lookup f with
    | none => rw [et] at h'; exact h'.elim
    | some t =>
      rw [et] at h'
      obtain ⟨w, G', ew, rw', _⟩ := Rps.lookup h3 h4 et
      cases rw' with
      | frz rz => exact ⟨w, _, _, _, _, _, rfl, h1, (hc _ hC).1, (hc _ hC).2, ew, rz, h'⟩
      | _ => exact h'.elim
  | _ => exact h.elim
theorem ve_attr {Cs : List Addr} {f : Str} {e : Expr} {o : Opr} {pos : Pos} (hc : FldOk X.K Cs f) (h : VO X W e o) (hb : attributeBase e f X.env (eval e X.env) = eval e X.env := by rfl) : VE X W (.Attribute e f pos) (mAtr Cs f o) := by
  cases h with
  | @nm i pe =>
    refine ⟨_, pe_fld pe hb, fun Z H σ Γ F R XR Q hs rs m k x => ?_⟩
    have m' : match Γ[i]? with
      | some (some t) => t.fld Cs f fun d => R (.frz d) Γ
      | _ => False := m
    cases et : Γ[i]? with
    | none => rw [et] at m'; exact m'.elim
    | some o =>
      rw [et] at m'
      cases o with
      | none => exact m'.elim
      | some t =>
        obtain ⟨v, G, ev, rp, _⟩ := rs.at et
        obtain ⟨w, d, a, C, dx, fs, e1, e2, e3, e4, e5, rz, q⟩ := fld_at hs rp hc m'
        exact ⟨v, ev, a, C, dx, fs, w, e1, e2, e3, e4, e5, k.pure hs rs rz q⟩
  | @ex m ve =>
    obtain ⟨t, pe, se⟩ := ve.ex
    refine ⟨_, pe_fld pe hb, fun Z H σ Γ F R XR Q hs rs m k x => ?_⟩
    refine se Z H σ Γ F _ XR _ hs rs m (fun Z1 H1 Γ1 F1 t v G s1 e1 r1 p1 n1 q1 => ?_) x
    obtain ⟨w, d, a, C, dx, fs, g1, g2, g3, g4, g5, rz, q⟩ := fld_at s1 p1 hc q1
    exact ⟨a, C, dx, fs, w, g1, g2, g3, g4, g5, (k.step (e1.sub fun _ h => List.mem_append_left _ h)).pure s1 r1 rz q⟩
  | @fl i Cs f hc pe => exact ⟨_, pe_fld pe hb, fun Z H σ Γ F R XR Q hs rs m k x => m.elim⟩
end
end VL
set_option Elab.async false
set_option linter.all false
set_option autoImplicit false
set_option maxRecDepth 100000
set_option maxHeartbeats 2000000
/-! VL6: tests joined, values by tests; statements. -/
namespace VL
open PySem PySem.Spec L2
open PyProof.Rows hiding St

section
variable {X : Cx} {W : WX}
/-! ### tests -/
def D.tru (d : D) (k : Bool → Prop) : Prop := match d with
  | .non => k false
  | .bl b => k b
  | .int i => k (i != 0)
  | .str s => s.length ≤ sizeLine ∧ k ((s.length : Int) != 0)
  | .lst ds => k (!ds.isEmpty)
  | .tup ds => k (!ds.isEmpty)
  | _ => False
def mTru (o : Opr) : MT := fun Γ R XR => oV o Γ (fun d Γ' => d.tru fun b => R b Γ') XR
theorem isEmpty_rzs {K : PySem.W.Frag} {Z : Hp} {ds : List D} {vs : List V} (r : Rzs K Z ds vs) : vs.isEmpty = ds.isEmpty := by cases r <;> rfl
theorem tru_vw {K : PySem.W.Frag} {Z H : Hp} (hs : Same Z H) {d : D} {v : V} (w : Vw K Z H d v) {k : Bool → Prop} (h : d.tru k) : ∃ b, TruV K v H b ∧ k b := by
  cases d with
  | non => rw [w.nonE]; exact ⟨false, rfl, h⟩
  | bl b => rw [w.blE]; exact ⟨b, rfl, h⟩
  | int i => rw [w.intE]; exact ⟨_, rfl, h⟩
  | str s => rw [w.strE.1]; exact ⟨_, ⟨h.1, rfl⟩, h.2⟩
  | lst ds =>
    obtain ⟨a, vs, rfl, h1, r⟩ := w.lstE hs
    exact ⟨_, .inl ⟨vs, .inl (.inl h1), by rw [isEmpty_rzs r]⟩, h⟩
  | tup ds =>
    obtain ⟨a, vs, rfl, h1, r⟩ := w.tupE hs
    exact ⟨_, .inr (.inl ⟨vs, h1, by rw [isEmpty_rzs r]⟩), h⟩
  | _ => exact h.elim
/-- a value by its truth -/
theorem vt_tru {e : Expr} {o : Opr} (h : VO X W e o) (he : ∀ whole, isTrue e X.env whole = (do let v ← whole; standAt e.pos; holding [v] (truthy v)) := by intro _; rfl) : VT X W e (mTru o) := by
  obtain ⟨t, pe, sn⟩ := vo_view h
  refine ⟨_, pt_truth pe he, fun Z H σ Γ F R XR Q hs rs m k x => ?_⟩
  refine sn Z H σ Γ F _ XR _ hs rs m (fun Z' H' Γ' F' d v s1 e1 r1 w q => ?_) x
  obtain ⟨b, h1, h2⟩ := tru_vw s1 w q
  exact ⟨b, h1, k Z' H' Γ' F' b s1 e1 r1 h2⟩
def mNot (m : MT) : MT := fun Γ R XR => m Γ (fun b Γ' => R (!b) Γ') XR
def mAnd (m n : MT) : MT := fun Γ R XR => m Γ (fun b Γ' => if b = true then n Γ' R XR else R false Γ') XR
def mOr (m n : MT) : MT := fun Γ R XR => m Γ (fun b Γ' => if b = true then R true Γ' else n Γ' R XR) XR
theorem vt_not {e : Expr} {m : MT} {pos : Pos} (h : VT X W e m) : VT X W (.UnaryOp .Not e pos) (mNot m) := by
  obtain ⟨t, pe, sn⟩ := h.ex
  exact ⟨_, pt_not pe, fun Z H σ Γ F R XR Q hs rs m k x => sn Z H σ Γ F _ XR _ hs rs m (fun Z' H' Γ' F' b s1 e1 r1 q => k Z' H' Γ' F' _ s1 e1 r1 q) x⟩
theorem VW.vt {e : Expr} {m : MT} (h : VW X W e m) : VT X W e m := by
  obtain ⟨t, pe, sn⟩ := h.ex
  exact ⟨_, pe.pt, sn⟩
theorem vw_and1 {a : Expr} {m : MT} {pos : Pos} (h : VT X W a m) : VW X W (.BoolOp .And [a] pos) m := by
  obtain ⟨t, pe, sn⟩ := h.ex
  exact ⟨_, pw_and1 pe, sn⟩
theorem vw_or1 {a : Expr} {m : MT} {pos : Pos} (h : VT X W a m) : VW X W (.BoolOp .Or [a] pos) m := by
  obtain ⟨t, pe, sn⟩ := h.ex
  exact ⟨_, pw_or1 pe, sn⟩
theorem vw_and {a b : Expr} {rest : List Expr} {m n : MT} {pos : Pos} (h : VT X W a m) (g : VW X W (.BoolOp .And (b :: rest) pos) n) : VW X W (.BoolOp .And (a :: b :: rest) pos) (mAnd m n) := by
  obtain ⟨t, pe, sn⟩ := h.ex
  obtain ⟨t', pe', sn'⟩ := g.ex
  refine ⟨_, pw_and pe pe', fun Z H σ Γ F R XR Q hs rs m k x => sn Z H σ Γ F _ XR _ hs rs m (fun Z' H' Γ' F' b s1 e1 r1 q => ?_) x⟩
  cases b with
  | true => exact sn' Z' H' σ Γ' F' R XR Q s1 r1 q (fun Z2 H2 Γ2 F2 b s2 e2 r2 q2 => k Z2 H2 Γ2 F2 b s2 (e1.trans e2) r2 q2) (x.step0 e1)
  | false => exact k Z' H' Γ' F' _ s1 e1 r1 q
theorem vw_or {a b : Expr} {rest : List Expr} {m n : MT} {pos : Pos} (h : VT X W a m) (g : VW X W (.BoolOp .Or (b :: rest) pos) n) : VW X W (.BoolOp .Or (a :: b :: rest) pos) (mOr m n) := by
  obtain ⟨t, pe, sn⟩ := h.ex
  obtain ⟨t', pe', sn'⟩ := g.ex
  refine ⟨_, pw_or pe pe', fun Z H σ Γ F R XR Q hs rs m k x => sn Z H σ Γ F _ XR _ hs rs m (fun Z' H' Γ' F' b s1 e1 r1 q => ?_) x⟩
  cases b with
  | true => exact k Z' H' Γ' F' _ s1 e1 r1 q
  | false => exact sn' Z' H' σ Γ' F' R XR Q s1 r1 q (fun Z2 H2 Γ2 F2 b s2 e2 r2 q2 => k Z2 H2 Γ2 F2 b s2 (e1.trans e2) r2 q2) (x.step0 e1)
/-! ### and, or, not as values: all but the last a bool -/
def mAndV (m n : ME) : ME := fun Γ R XR => m Γ (fun t Γ' => ∃ b, t = .frz (.bl b) ∧ if b = true then n Γ' R XR else R (.frz (.bl false)) Γ') XR
def mOrV (m n : ME) : ME := fun Γ R XR => m Γ (fun t Γ' => ∃ b, t = .frz (.bl b) ∧ if b = true then R (.frz (.bl true)) Γ' else n Γ' R XR) XR
def mNotV (m : ME) : ME := fun Γ R XR => m Γ (fun t Γ' => ∃ b, t = .frz (.bl b) ∧ R (.frz (.bl (!b))) Γ') XR
theorem ve_one {a : Expr} {m : ME} {op : BoolOp} {pos : Pos} (h : VE X W a m) : VE X W (.BoolOp op [a] pos) m := by
  obtain ⟨t, pe, sn⟩ := h.ex
  exact ⟨_, pe_one pe, sn⟩
theorem ve_and {a b : Expr} {rest : List Expr} {m n : ME} {pos : Pos} (h : VE X W a m) (g : VE X W (.BoolOp .And (b :: rest) pos) n) : VE X W (.BoolOp .And (a :: b :: rest) pos) (mAndV m n) := by
  obtain ⟨t, pe, sn⟩ := h.ex
  obtain ⟨t', pe', sn'⟩ := g.ex
  refine ⟨_, pe_and pe pe', fun Z H σ Γ F R XR Q hs rs m k x => sn Z H σ Γ F _ XR _ hs rs m (fun Z' H' Γ' F' r v G s1 e1 r1 p1 n1 ⟨b, eb, q⟩ => ?_) x⟩
  subst eb
  have e1' := e1.sub fun _ h => List.mem_append_left _ h
  cases p1 with
  | frz rz =>
    cases rz
    refine ⟨b, rfl, ?_⟩
    cases b with
    | true => exact sn' Z' H' σ Γ' F' R XR Q s1 r1 q (k.step e1') (x.step0 e1')
    | false => exact (k.step e1').pure s1 r1 (.bl _) q
theorem ve_or {a b : Expr} {rest : List Expr} {m n : ME} {pos : Pos} (h : VE X W a m) (g : VE X W (.BoolOp .Or (b :: rest) pos) n) : VE X W (.BoolOp .Or (a :: b :: rest) pos) (mOrV m n) := by
  obtain ⟨t, pe, sn⟩ := h.ex
  obtain ⟨t', pe', sn'⟩ := g.ex
  refine ⟨_, pe_or pe pe', fun Z H σ Γ F R XR Q hs rs m k x => sn Z H σ Γ F _ XR _ hs rs m (fun Z' H' Γ' F' r v G s1 e1 r1 p1 n1 ⟨b, eb, q⟩ => ?_) x⟩
  subst eb
  have e1' := e1.sub fun _ h => List.mem_append_left _ h
  cases p1 with
  | frz rz =>
    cases rz
    refine ⟨b, rfl, ?_⟩
    cases b with
    | true => exact (k.step e1').pure s1 r1 (.bl _) q
    | false => exact sn' Z' H' σ Γ' F' R XR Q s1 r1 q (k.step e1') (x.step0 e1')
theorem ve_not {a : Expr} {m : ME} {pos : Pos} (h : VE X W a m) : VE X W (.UnaryOp .Not a pos) (mNotV m) := by
  obtain ⟨t, pe, sn⟩ := h.ex
  refine ⟨_, pe_not pe, fun Z H σ Γ F R XR Q hs rs m k x => sn Z H σ Γ F _ XR _ hs rs m (fun Z' H' Γ' F' r v G s1 e1 r1 p1 n1 ⟨b, eb, q⟩ => ?_) x⟩
  subst eb
  have e1' := e1.sub fun _ h => List.mem_append_left _ h
  cases p1 with
  | frz rz =>
    cases rz
    exact ⟨b, rfl, (k.step e1').pure s1 r1 (.bl _) q⟩
def mIfE (c : MT) (m n : ME) : ME := fun Γ R XR => c Γ (fun b Γ' => if b = true then m Γ' R XR else n Γ' R XR) XR
theorem ve_ife {c a b : Expr} {mc : MT} {m n : ME} {pos : Pos} (hc : VT X W c mc) (ha : VE X W a m) (hb : VE X W b n) : VE X W (.IfExp c a b pos) (mIfE mc m n) := by
  obtain ⟨t, pe, sn⟩ := hc.ex
  obtain ⟨ta, pa, sa⟩ := ha.ex
  obtain ⟨tb, pb, sb⟩ := hb.ex
  refine ⟨_, pe_ifExp pe pa pb, fun Z H σ Γ F R XR Q hs rs m k x => sn Z H σ Γ F _ XR _ hs rs m (fun Z' H' Γ' F' b s1 e1 r1 q => ?_) x⟩
  cases b with
  | true => exact sa Z' H' σ Γ' F' R XR Q s1 r1 q (k.step e1) (x.step0 e1)
  | false => exact sb Z' H' σ Γ' F' R XR Q s1 r1 q (k.step e1) (x.step0 e1)
end

/-! ### statements -/
structure VEnds where
  nx : Sl → Prop
  rt : T → Sl → Prop
  bk : Sl → Prop
  ct : Sl → Prop
  xr : XRl
abbrev MS := Sl → VEnds → Prop
structure EOk (K : PySem.W.Frag) (np : Nat) (Z H : Hp) (F : List Addr) (σ : St) (M : VEnds) (W : WX) (E : Ends) : Prop where
  nx : ∀ Z' H' σ' Γ' F', Same Z' H' → Ext Z H F Z' H' F' → Rsl K Z' H' Γ' σ' F' → σ'.take np = σ.take np → M.nx Γ' → E.nx σ' H'
  bk : ∀ Z' H' σ' Γ' F', Same Z' H' → Ext Z H F Z' H' F' → Rsl K Z' H' Γ' σ' F' → σ'.take np = σ.take np → M.bk Γ' → E.bk σ' H'
  ct : ∀ Z' H' σ' Γ' F', Same Z' H' → Ext Z H F Z' H' F' → Rsl K Z' H' Γ' σ' F' → σ'.take np = σ.take np → M.ct Γ' → E.ct σ' H'
  rt : ∀ Z' H' σ' Γ' F' r v G, Same Z' H' → Ext Z H F Z' H' (F' ++ G) → Rsl K Z' H' Γ' σ' F' → Rp K Z' H' r v G → (∀ x ∈ G, x ∉ F') → σ'.take np = σ.take np → M.rt r Γ' → E.rt v H'
  xr : ∀ Z' H' σ' Γ' F' C d fs, Same Z' H' → Ext Z H F Z' H' F' → Rsl K Z' H' Γ' σ' F' → σ'.take np = σ.take np → Xd K Z' d fs → M.xr C fs Γ' → W (.ref C) d σ' H'
def SndS (K : PySem.W.Frag) (np : Nat) (W : WX) (t : TS) (m : MS) : Prop :=
  ∀ Z H σ Γ F M E, Same Z H → Rsl K Z H Γ σ F → m Γ M → EOk K np Z H F σ M W E → t E σ H
structure VS (X : Cx) (W : WX) (np : Nat) (st : Stmt) (m : MS) : Prop where
  ex : ∃ t, PS X st t ∧ SndS X.K np W t m
structure VSs (X : Cx) (W : WX) (np : Nat) (st : List Stmt) (m : MS) : Prop where
  ex : ∃ t, PSs X st t ∧ SndS X.K np W t m
section
variable {K : PySem.W.Frag} {np : Nat} {Z H Z1 H1 : Hp} {F F1 : List Addr} {σ σ1 : St} {M : VEnds} {W : WX} {E : Ends}
theorem EOk.step (k : EOk K np Z H F σ M W E) (e : Ext Z H F Z1 H1 F1) (hp : σ1.take np = σ.take np) : EOk K np Z1 H1 F1 σ1 M W E where
  nx := fun Z' H' σ' Γ' F' a b c d => k.nx Z' H' σ' Γ' F' a (e.trans b) c (d.trans hp)
  bk := fun Z' H' σ' Γ' F' a b c d => k.bk Z' H' σ' Γ' F' a (e.trans b) c (d.trans hp)
  ct := fun Z' H' σ' Γ' F' a b c d => k.ct Z' H' σ' Γ' F' a (e.trans b) c (d.trans hp)
  rt := fun Z' H' σ' Γ' F' r v G a b c d n p => k.rt Z' H' σ' Γ' F' r v G a (e.trans b) c d n (p.trans hp)
  xr := fun Z' H' σ' Γ' F' C d fs a b c p => k.xr Z' H' σ' Γ' F' C d fs a (e.trans b) c (p.trans hp)
theorem EOk.xok (k : EOk K np Z H F σ M W E) : XOk K Z H F σ M.xr W := fun Z' H' Γ' F' C d fs a b c x q => k.xr Z' H' σ Γ' F' C d fs a b c rfl x q
end
section
variable {X : Cx} {W : WX} {np : Nat}
def sNil : MS := fun Γ M => M.nx Γ
def sSeq (a b : MS) : MS := fun Γ M => a Γ { M with nx := fun Γ' => b Γ' M }
theorem vss_nil : VSs X W np [] sNil := ⟨_, pss_nil, fun Z H σ Γ F M E hs rs m k => k.nx Z H σ Γ F hs (.refl ..) rs rfl m⟩
theorem EOk.withNx {K : PySem.W.Frag} {Z H : Hp} {F : List Addr} {σ : St} {M : VEnds} {E : Ends} (k : EOk K np Z H F σ M W E) {nx : Sl → Prop} {en : St → Hp → Prop}
    (h : ∀ Z' H' σ' Γ' F', Same Z' H' → Ext Z H F Z' H' F' → Rsl K Z' H' Γ' σ' F' → σ'.take np = σ.take np → nx Γ' → en σ' H') : EOk K np Z H F σ { M with nx := nx } W { E with nx := en } :=
  ⟨h, k.bk, k.ct, k.rt, k.xr⟩
theorem vss_cons {st : Stmt} {rest : List Stmt} {a b : MS} (h : VS X W np st a) (g : VSs X W np rest b) : VSs X W np (st :: rest) (sSeq a b) := by
  obtain ⟨t, ps, sn⟩ := h.ex
  obtain ⟨u, ps', sn'⟩ := g.ex
  exact ⟨_, pss_cons ps ps', fun Z H σ Γ F M E hs rs m k => sn Z H σ Γ F { M with nx := fun Γ' => b Γ' M } { E with nx := u E } hs rs m (k.withNx fun Z' H' σ' Γ' F' s1 e1 r1 p1 q => sn' Z' H' σ' Γ' F' M E s1 r1 q (k.step e1 p1))⟩
theorem vss_one {st : Stmt} {a : MS} (h : VS X W np st a) : VSs X W np [st] a := by
  obtain ⟨t, ps, sn⟩ := h.ex
  exact ⟨_, pss_one ps, sn⟩
theorem vs_pass {pos : Pos} : VS X W np (.Pass pos) sNil := ⟨_, ps_pass, fun Z H σ Γ F M E hs rs m k => k.nx Z H σ Γ F hs (.refl ..) rs rfl m⟩
def sBrk : MS := fun Γ M => M.bk Γ
def sCnt : MS := fun Γ M => M.ct Γ
theorem vs_break {pos : Pos} : VS X W np (.Break pos) sBrk := ⟨_, ps_break, fun Z H σ Γ F M E hs rs m k => k.bk Z H σ Γ F hs (.refl ..) rs rfl m⟩
theorem vs_cont {pos : Pos} : VS X W np (.Continue pos) sCnt := ⟨_, ps_continue, fun Z H σ Γ F M E hs rs m k => k.ct Z H σ Γ F hs (.refl ..) rs rfl m⟩
/-- an expression alone -/
def sExp (m : ME) : MS := fun Γ M => m Γ (fun _ Γ' => M.nx Γ') M.xr
theorem vs_expr {e : Expr} {m : ME} {pos : Pos} (h : VE X W e m) (hs : swapsWith e none pos.line X.env = pure false := by rfl) : VS X W np (.Expr e pos) (sExp m) := by
  obtain ⟨t, pe, sn⟩ := h.ex
  exact ⟨_, ps_expr pe hs, fun Z H σ Γ F M E hs rs m k => sn Z H σ Γ F _ M.xr _ hs rs m (fun Z' H' Γ' F' r v G s1 e1 r1 p1 n1 q => k.nx Z' H' σ Γ' F' s1 (e1.sub fun _ h => List.mem_append_left _ h) r1 rfl q) k.xok⟩
def sRet (m : ME) : MS := fun Γ M => m Γ (fun t Γ' => M.rt t Γ') M.xr
def sRetN : MS := fun Γ M => M.rt (.frz .non) Γ
theorem vs_ret {e : Expr} {m : ME} {pos : Pos} (h : VE X W e m) : VS X W np (.Return (some e) pos) (sRet m) := by
  obtain ⟨t, pe, sn⟩ := h.ex
  exact ⟨_, ps_ret pe, fun Z H σ Γ F M E hs rs m k => sn Z H σ Γ F _ M.xr _ hs rs m (fun Z' H' Γ' F' r v G s1 e1 r1 p1 n1 q => k.rt Z' H' σ Γ' F' r v G s1 e1 r1 p1 n1 rfl q) k.xok⟩
theorem vs_retN {pos : Pos} : VS X W np (.Return none pos) sRetN := ⟨_, ps_retN, fun Z H σ Γ F M E hs rs m k => k.rt Z H σ Γ F _ _ [] hs (by simpa using Ext.refl Z H F) rs (.frz .non) (fun x hx => absurd hx (by simp)) rfl m⟩
def sIf (c : MT) (a b : MS) : MS := fun Γ M => c Γ (fun k Γ' => if k = true then a Γ' M else b Γ' M) M.xr
theorem vs_if {c : Expr} {a b : List Stmt} {mc : MT} {ma mb : MS} {pos : Pos} (hc : VT X W c mc) (ha : VSs X W np a ma) (hb : VSs X W np b mb) : VS X W np (.If c a b pos) (sIf mc ma mb) := by
  obtain ⟨t, pe, sn⟩ := hc.ex
  obtain ⟨ta, pa, sa⟩ := ha.ex
  obtain ⟨tb, pb, sb⟩ := hb.ex
  refine ⟨_, ps_if pe pa pb, fun Z H σ Γ F M E hs rs m k => sn Z H σ Γ F _ M.xr _ hs rs m (fun Z' H' Γ' F' b s1 e1 r1 q => ?_) k.xok⟩
  cases b with
  | true => exact sa Z' H' σ Γ' F' M E s1 r1 q (k.step e1 rfl)
  | false => exact sb Z' H' σ Γ' F' M E s1 r1 q (k.step e1 rfl)
/-! ### names stored -/
theorem take_set {α : Type} {l : List α} {i n : Nat} {x : α} (h : n ≤ i) : (l.set i x).take n = l.take n := by
  apply List.ext_getElem?
  intro j
  by_cases hj : j < n
  · rw [List.getElem?_take_of_lt hj, List.getElem?_take_of_lt hj, List.getElem?_set_ne (by omega)]
  · rw [List.getElem?_eq_none (by rw [List.length_take]; omega), List.getElem?_eq_none (by rw [List.length_take]; omega)]
theorem put_slot {K : PySem.W.Frag} {Z H : Hp} {Γ : Sl} {σ : St} {F G : List Addr} {i : Nat} {t : T} {v : V} (rs : Rsl K Z H Γ σ F) (hi : i < Γ.length) (rp : Rp K Z H t v G) (n : ∀ x ∈ G, x ∉ F) :
    ∃ F', Rsl K Z H (Γ.set i (some t)) (σ.set i (some v)) F' ∧ ∀ x, x ∈ F' → x ∈ F ∨ x ∈ G := rs.put hi rp n
def sSet (i : Nat) (m : ME) : MS := fun Γ M => m Γ (fun t Γ' => i < Γ'.length ∧ M.nx (Γ'.set i (some t))) M.xr
theorem vs_set {i : Nat} {x : Str} {e : Expr} {m : ME} {pos pos' : Pos} (hN : X.N.Nodup) (h : VE X W e m) (hp : np ≤ i := by decide) (hi : X.N[i]? = some x := by rfl) (hx : Loc X.env.scope x := by first | exact Or.inl rfl | exact Or.inr rfl)
    (hs : swapsWith e (some (.Name x pos')) pos.line X.env = pure false := by rfl) (hf : X.fn x = true ∨ X.env.scope.names.lookup x = some .local := by first | exact .inl rfl | exact .inr rfl) : VS X W np (.Assign [.Name x pos'] e pos) (sSet i m) := by
  obtain ⟨t, pe, sn⟩ := h.ex
  refine ⟨_, ps_set hN hi hx pe hs hf, fun Z H σ Γ F M E hs rs m k => sn Z H σ Γ F _ M.xr _ hs rs m (fun Z' H' Γ' F' r v G s1 e1 r1 p1 n1 q => ?_) k.xok⟩
  obtain ⟨F2, rs2, sub⟩ := put_slot r1 q.1 p1 n1
  exact k.nx Z' H' _ _ F2 s1 (e1.sub fun a ha => List.mem_append.mpr (sub a ha)) rs2 (take_set hp) q.2
end
end VL
set_option Elab.async false
set_option linter.all false
set_option autoImplicit false
set_option maxRecDepth 100000
set_option maxHeartbeats 2000000
/-! VL7: promises, calls, defs. -/
namespace VL
open PySem PySem.Spec L2
open PyProof.Rows hiding St

/-- a promise over trees: the arguments, what is wanted of the answer and the parameters' last states, what of an exception -/
abbrev VSp := List T → (T → Sl → Prop) → XRl → Prop
def lift (K : PySem.W.Frag) (n : Nat) (sp : VSp) : Sp := fun vs H Q E => ∃ Z ts F R XR, vs.length = n ∧ Same Z H ∧ Rps K Z H ts vs F ∧ sp ts R XR ∧
  (∀ Z' H' v r Γ' F' G, Same Z' H' → Ext Z H F Z' H' (F' ++ G) → Rsl K Z' H' Γ' (vs.map some) F' → Rp K Z' H' r v G → (∀ x ∈ G, x ∉ F') → R r Γ' → Q v H') ∧
  (∀ Z' H' C d fs Γ' F', Same Z' H' → Ext Z H F Z' H' F' → Rsl K Z' H' Γ' (vs.map some) F' → Xd K Z' d fs → XR C fs Γ' → E (.ref C) d H')

/-! ### arguments: names whose containers the callee may change, and values -/
inductive AV where
  | io (i : Nat)
  | tm (t : T)
abbrev MG := Sl → (List AV → Sl → Prop) → XRl → Prop
inductive Avs (K : PySem.W.Frag) (Z H : Hp) (σ : St) : List AV → List V → List Addr → Prop
  | nil : Avs K Z H σ [] [] []
  | io {i v as vs G} : σ[i]? = some (some v) → Avs K Z H σ as vs G → Avs K Z H σ (.io i :: as) (v :: vs) G
  | tm {t v F as vs G} : Rp K Z H t v F → Avs K Z H σ as vs G → (∀ x ∈ F, x ∉ G) → Avs K Z H σ (.tm t :: as) (v :: vs) (F ++ G)
section
variable {K : PySem.W.Frag} {Z H Z' H' : Hp} {σ : St}
theorem Avs.foot {as : List AV} {vs : List V} {G : List Addr} (h : Avs K Z H σ as vs G) : ∀ x ∈ G, Z x = none ∧ ∃ o, H x = some o := by
  induction h with
  | nil => exact fun x hx => absurd hx (by simp)
  | io _ _ ih => exact ih
  | tm r _ _ ih => exact fun x hx => (List.mem_append.mp hx).elim (r.foot x) (ih x)
theorem Avs.mono (hz : Same Z Z') {as : List AV} {vs : List V} {G : List Addr} (h : Avs K Z H σ as vs G) : (∀ x ∈ G, Z' x = none ∧ H' x = H x) → Avs K Z' H' σ as vs G := by
  induction h with
  | nil => exact fun _ => .nil
  | io e _ ih => exact fun k => .io e (ih k)
  | tm r _ n ih => exact fun k => .tm (r.mono hz fun x hx => k x (List.mem_append_left _ hx)) (ih fun x hx => k x (List.mem_append_right _ hx)) n
/-- all values frozen -/
def AV.frz : AV → AV
  | .io i => .io i
  | .tm t => .tm (.frz t.toD)
theorem Avs.freeze {as : List AV} {vs : List V} {G : List Addr} (h : Avs K Z H σ as vs G) (hz : Same Z Z') : (∀ x ∈ G, Z' x = H x) → Avs K Z' H σ (as.map AV.frz) vs [] := by
  induction h with
  | nil => exact fun _ => .nil
  | io e _ ih => exact fun k => .io e (ih k)
  | @tm t v F as vs G r _ n ih => exact fun k => Avs.tm (F := []) (G := []) (.frz (r.freeze hz fun x hx => k x (List.mem_append_left _ hx))) (ih fun x hx => k x (List.mem_append_right _ hx)) (fun x hx => absurd hx (by simp))
def clr : List AV → Sl → Sl
  | [], Γ => Γ
  | .io i :: as, Γ => clr as (Γ.set i none)
  | .tm _ :: as, Γ => clr as Γ
def wb : List AV → Sl → Sl → Sl
  | .io i :: as, x :: Γp, Γ => wb as Γp (Γ.set i x)
  | .tm _ :: as, _ :: Γp, Γ => wb as Γp Γ
  | _, _, Γ => Γ
/-- what the callee gets -/
def argT : List AV → Sl → (List T → Prop) → Prop
  | [], _, k => k []
  | .io i :: as, Γ, k => match Γ[i]? with
    | some (some t) => argT as (Γ.set i none) fun ts => k (t :: ts)
    | _ => False
  | .tm t :: as, Γ, k => argT as Γ fun ts => k (.frz t.toD :: ts)
theorem Avs.ioE {i : Nat} {as : List AV} {vs : List V} (h : Avs K Z H σ (.io i :: as) vs []) : ∃ v vs', vs = v :: vs' ∧ σ[i]? = some (some v) ∧ Avs K Z H σ as vs' [] := by
  generalize eb : AV.io i :: as = bs at h
  generalize eG : ([] : List Addr) = G at h
  cases h with
  | nil => cases eb
  | io ev a =>
    simp only [List.cons.injEq, AV.io.injEq] at eb
    obtain ⟨e1, e2⟩ := eb
    subst e1; subst e2; subst eG
    exact ⟨_, _, rfl, ev, a⟩
  | tm _ _ _ => cases eb
theorem Avs.tmE {t : T} {as : List AV} {vs : List V} (h : Avs K Z H σ (.tm t :: as) vs []) : ∃ v vs', vs = v :: vs' ∧ Rp K Z H t v [] ∧ Avs K Z H σ as vs' [] := by
  generalize eb : AV.tm t :: as = bs at h
  generalize eG : ([] : List Addr) = G at h
  cases h with
  | nil => cases eb
  | io _ _ => cases eb
  | @tm t2 v F as2 vs2 G2 r b n =>
    simp only [List.cons.injEq, AV.tm.injEq] at eb
    obtain ⟨e1, e2⟩ := eb
    subst e1; subst e2
    obtain ⟨e3, e4⟩ := List.append_eq_nil_iff.mp eG.symm
    subst e3; subst e4
    exact ⟨v, vs2, rfl, r, b⟩
theorem Avs.nilE {vs : List V} {G : List Addr} (h : Avs K Z H σ [] vs G) : vs = [] := by cases h; rfl
theorem args_out : ∀ {as : List AV} {vs : List V} {Γ : Sl} {F : List Addr} {k : List T → Prop}, Rsl K Z H Γ σ F → Avs K Z H σ (as.map AV.frz) vs [] → argT as Γ k →
    ∃ ts F0 Fa, k ts ∧ Rsl K Z H (clr as Γ) σ F0 ∧ Rps K Z H ts vs Fa ∧ (∀ x, x ∈ F ↔ x ∈ F0 ∨ x ∈ Fa) ∧ ∀ x ∈ Fa, x ∉ F0
  | [], vs, Γ, F, k, rs, a, h => by
    have e := a.nilE
    subst e
    exact ⟨[], F, [], h, rs, .nil, fun x => by simp, fun x hx => absurd hx (by simp)⟩
  | .io i :: as, vs, Γ, F, k, rs, a, h => by
    obtain ⟨v, vs', rfl, ev, a⟩ := a.ioE
    cases e : Γ[i]? with
    | none => simp only [argT, e] at h
    | some o =>
      cases o with
      | none => simp only [argT, e] at h
      | some t =>
        simp only [argT, e] at h
        obtain ⟨v', G, F1, ev', rp, rs', mm, nn⟩ := rs.out e
        rw [ev] at ev'
        cases ev'
        obtain ⟨ts, F0, Fa, hk, r0, ra, m0, n0⟩ := args_out rs' a h
        refine ⟨t :: ts, F0, G ++ Fa, hk, r0, .cons rp ra fun x hx hx' => nn x hx ((m0 x).mpr (.inr hx')), fun x => ?_, fun x hx => ?_⟩
        · rw [mm, m0, List.mem_append]
          constructor
          · rintro (h | h | h)
            · exact .inr (.inl h)
            · exact .inl h
            · exact .inr (.inr h)
          · rintro (h | h | h)
            · exact .inr (.inl h)
            · exact .inl h
            · exact .inr (.inr h)
        · rcases List.mem_append.mp hx with h | h
          · exact fun q => nn x h ((m0 x).mpr (.inl q))
          · exact n0 x h
  | .tm t :: as, vs, Γ, F, k, rs, a, h => by
    obtain ⟨v, vs', rfl, r, b⟩ := a.tmE
    obtain ⟨ts, F0, Fa, hk, r0, ra, m0, n0⟩ := args_out (k := fun ts => k (.frz t.toD :: ts)) rs b h
    exact ⟨_, F0, [] ++ Fa, hk, r0, .cons r ra (fun x hx => absurd hx (by simp)), by simpa using m0, by simpa using n0⟩
theorem set_same {α : Type} {l : List (Option α)} {i : Nat} {v : α} (ev : l[i]? = some (some v)) : l.set i (some v) = l := by
  apply List.ext_getElem?
  intro j
  by_cases hj : i = j
  · subst hj
    have hl : i < l.length := (List.getElem?_eq_some_iff.mp ev).1
    rw [List.getElem?_set_self hl, ev]
  · rw [List.getElem?_set_ne hj]
theorem args_in : ∀ {as : List AV} {vs : List V} {Γ Γp : Sl} {F0 Fp : List Addr}, Rsl K Z H Γ σ F0 → Avs K Z' H' σ (as.map AV.frz) vs [] → Rsl K Z H Γp (vs.map some) Fp → (∀ x ∈ Fp, x ∉ F0) →
    ∃ F', Rsl K Z H (wb as Γp Γ) σ F' ∧ ∀ x ∈ F', x ∈ F0 ∨ x ∈ Fp
  | [], _, Γ, Γp, F0, Fp, rs, _, rp, n => ⟨F0, by cases Γp <;> exact rs, fun x hx => .inl hx⟩
  | .io i :: as, vs, Γ, Γp, F0, Fp, rs, a, rp, n => by
    obtain ⟨v, vs', rfl, ev, a⟩ := a.ioE
    have hi : i < Γ.length := by rw [rs.length]; exact (List.getElem?_eq_some_iff.mp ev).1
    rw [List.map_cons] at rp
    cases rp with
    | gap rp =>
      obtain ⟨F1, r1, m1⟩ := rs.forget i
      obtain ⟨F', r', m'⟩ := args_in r1 a rp (fun x hx hx' => n x hx (m1 x hx'))
      exact ⟨F', r', fun x hx => (m' x hx).elim (fun h => .inl (m1 x h)) .inr⟩
    | @has t _ Ft _ _ Fr h1 rp nn =>
      obtain ⟨F1, r1, m1⟩ := rs.put hi h1 (fun x hx => n x (List.mem_append_left _ hx))
      rw [set_same ev] at r1
      obtain ⟨F', r', m'⟩ := args_in r1 a rp (fun x hx hx' => (m1 x hx').elim (fun h => n x (List.mem_append_right _ hx) h) fun h => nn x h hx)
      refine ⟨F', r', fun x hx => ?_⟩
      rcases m' x hx with h | h
      · exact (m1 x h).elim .inl fun h => .inr (List.mem_append_left _ h)
      · exact .inr (List.mem_append_right _ h)
  | .tm t :: as, vs, Γ, Γp, F0, Fp, rs, a, rp, n => by
    obtain ⟨v, vs2, rfl, r, b⟩ := a.tmE
    rw [List.map_cons] at rp
    cases rp with
    | gap rp => exact args_in (as := as) rs b rp n
    | @has t _ Ft _ _ Fr h1 rp nn =>
      obtain ⟨F', r', m'⟩ := args_in (as := as) rs b rp (fun x hx => n x (List.mem_append_right _ hx))
      exact ⟨F', r', fun x hx => (m' x hx).elim .inl fun h => .inr (List.mem_append_right _ h)⟩
end
/-! ### argument lists as they are written -/
section
variable (K : PySem.W.Frag)
def KOkG (n : Nat) (Z H : Hp) (F : List Addr) (σ : St) (R : List AV → Sl → Prop) (Q : List V → Hp → Prop) : Prop :=
  ∀ Z' H' Γ' F' as vs G, Same Z' H' → Ext Z H F Z' H' (F' ++ G) → Rsl K Z' H' Γ' σ F' → Avs K Z' H' σ as vs G → (∀ x ∈ G, x ∉ F') → vs.length = n → R as Γ' → Q vs H'
def SndG (n : Nat) (W : WX) (t : TA) (m : MG) : Prop :=
  ∀ Z H σ Γ F R XR Q, Same Z H → Rsl K Z H Γ σ F → m Γ R XR → KOkG K n Z H F σ R Q → XOk K Z H F σ XR W → t σ H Q
end
structure VG (X : Cx) (W : WX) (es : List Expr) (m : MG) : Prop where
  ex : ∃ t, PA X es t ∧ SndG X.K es.length W t m
theorem Ext.keepsA {K : PySem.W.Frag} {Z H Z' H' : Hp} {σ : St} {F F' G : List Addr} {as : List AV} {vs : List V} (e : Ext Z H F Z' H' F') (r : Avs K Z H σ as vs G) (n : ∀ x ∈ G, x ∉ F) : Avs K Z' H' σ as vs G ∧ ∀ x ∈ G, x ∉ F' := by
  refine ⟨r.mono e.z fun x hx => ?_, fun x hx => ?_⟩
  · obtain ⟨hz, o, ho⟩ := r.foot x hx
    refine ⟨?_, ?_⟩
    · cases q : Z' x with
      | none => rfl
      | some u =>
        rcases e.zn x (by rw [q]; simp) with h | h | h
        · exact absurd hz h
        · exact absurd h (n x hx)
        · rw [ho] at h; cases h
    · rw [ho]; exact (e.fr x o ho (n x hx)).1
  · obtain ⟨_, o, ho⟩ := r.foot x hx
    exact (e.fr x o ho (n x hx)).2
section
variable {X : Cx} {W : WX}
def g0 : MG := fun Γ R _ => R [] Γ
def gE (m : ME) (r : MG) : MG := fun Γ R XR => m Γ (fun t Γ1 => r Γ1 (fun as Γ2 => R (.tm t :: as) Γ2) XR) XR
def gN (i : Nat) (r : MG) : MG := fun Γ R XR => (∃ t, Γ[i]? = some (some t)) ∧ r Γ (fun as Γ' => R (.io i :: as) Γ') XR
theorem vg_nil : VG X W [] g0 := ⟨_, pa_nil, fun Z H σ Γ F R XR Q hs rs m k x => k Z H Γ F [] [] [] hs (by simpa using Ext.refl Z H F) rs .nil (fun x hx => absurd hx (by simp)) rfl m⟩
theorem vg_e {e : Expr} {es : List Expr} {m : ME} {r : MG} (h : VE X W e m) (g : VG X W es r) (hs : starEach (e :: es) X.env = (false, eval e X.env) :: starEach es X.env := by rfl) : VG X W (e :: es) (gE m r) := by
  obtain ⟨te, pe, se⟩ := h.ex
  obtain ⟨ta, pa, sa⟩ := g.ex
  refine ⟨_, pa_cons pe pa hs, fun Z H σ Γ F R XR Q hs rs m k x => ?_⟩
  refine se Z H σ Γ F _ XR _ hs rs m (fun Z1 H1 Γ1 F1 t v G s1 e1 r1 p1 n1 q1 => ?_) x
  refine sa Z1 H1 σ Γ1 F1 _ XR _ s1 r1 q1 (fun Z2 H2 Γ2 F2 ts vs G2 s2 e2 r2 p2 n2 l2 q2 => ?_) (x.step e1)
  obtain ⟨kp, kn⟩ := e2.keeps p1 n1
  refine k Z2 H2 Γ2 F2 (.tm t :: ts) (v :: vs) (G ++ G2) s2 ((e1.tr e2).sub fun a ha => ?_) r2 (.tm kp p2 fun a ha hb => kn a ha (List.mem_append_right _ hb)) (fun a ha hb => ?_) (by simp [l2]) q2
  · simp only [List.mem_append] at ha ⊢
    rcases ha with h | h | h
    · exact .inl (.inl h)
    · exact .inr h
    · exact .inl (.inr h)
  · rcases List.mem_append.mp ha with h | h
    · exact kn a h (List.mem_append_left _ hb)
    · exact n2 a h hb
theorem vg_n (i : Nat) {x : Str} {p : Pos} {es : List Expr} {r : MG} (g : VG X W es r) (hN : X.N[i]? = some x := by rfl) (hv : Vis X.env.scope x := by first | exact Or.inl rfl | exact Or.inr (Or.inl rfl) | exact Or.inr (Or.inr rfl)) (hd : (x == ("__debug__" : Str)) = false := by decide)
    (hcd : (x == ("__classdict__" : Str)) = false := by decide) (hs : starEach (.Name x p :: es) X.env = (false, eval (.Name x p) X.env) :: starEach es X.env := by rfl) : VG X W (.Name x p :: es) (gN i r) := by
  obtain ⟨ta, pa, sa⟩ := g.ex
  refine ⟨_, pa_cons (pe_var hN hv hd hcd) pa hs, fun Z H σ Γ F R XR Q hs rs m k x => ?_⟩
  obtain ⟨⟨t, et⟩, m⟩ := m
  obtain ⟨v, G, ev, rp, _⟩ := rs.at et
  refine ⟨v, ev, sa Z H σ Γ F _ XR _ hs rs m (fun Z2 H2 Γ2 F2 ts vs G2 s2 e2 r2 p2 n2 l2 q2 => ?_) x⟩
  exact k Z2 H2 Γ2 F2 (.io i :: ts) (v :: vs) G2 s2 e2 r2 (.io ev p2) n2 (by simp [l2]) q2

/-! ### a promise kept -/
def call1 (sp : VSp) (as : List AV) (Γ : Sl) (R : T → Sl → Prop) (XR : XRl) : Prop :=
  argT as Γ fun ts => sp ts (fun r Γp => R r (wb as Γp (clr as Γ))) (fun C fs Γp => XR C fs (wb as Γp (clr as Γ)))
/-- the callee's world, from the caller's -/
theorem call_snd {sp : VSp} {n : Nat} {Z H Z1 H1 : Hp} {σ : St} {F F1 G : List Addr} {Γ : Sl} {R : T → Sl → Prop} {XR : XRl} {Q : VK} {as : List AV} {vs : List V}
    (k : KOk X.K Z H F σ R Q) (x : XOk X.K Z H F σ XR W) (s1 : Same Z1 H1) (e1 : Ext Z H F Z1 H1 (F1 ++ G)) (r1 : Rsl X.K Z1 H1 Γ σ F1) (a1 : Avs X.K Z1 H1 σ as vs G) (n1 : ∀ x ∈ G, x ∉ F1) (hn : vs.length = n) (q : call1 sp as Γ R XR) : lift X.K n sp vs H1 Q (WE W σ) := by
  have h0 : ∀ x ∈ G, Z1 x = none := fun x hx => (a1.foot x hx).1
  have r2 := frz_slots r1 h0 n1
  have a2 := a1.freeze (frzH_same (H := H1) h0) frzH_at
  have e2 := ext_frz e1 h0
  have s2 := frzH_below (F := G) s1
  obtain ⟨ts, F0, Fa, hk, r0, ra, m0, nd⟩ := args_out r2 a2 q
  have sub : ∀ x, x ∈ F0 ++ Fa → x ∈ F1 := fun x hx => (m0 x).mpr (List.mem_append.mp hx)
  -- the ground the callee starts from: F0 stays
  have outF : ∀ {Z' H' : Hp} {F' : List Addr}, Ext (frzH Z1 H1 G) H1 Fa Z' H' F' → Rsl X.K Z' H' (clr as Γ) σ F0 ∧ (∀ x ∈ F0, x ∉ F') ∧ Ext (frzH Z1 H1 G) H1 F1 Z' H' (F' ++ F0) := by
    intro Z' H' F' e
    have f0 : ∀ x ∈ F0, frzH Z1 H1 G x = none ∧ ∃ o, H1 x = some o := r0.foot
    have nf : ∀ x ∈ F0, x ∉ Fa := fun x hx hx' => nd x hx' hx
    refine ⟨r0.mono e.z fun x hx => ?_, fun x hx => ?_, ⟨e.z, fun a h => ?_, fun a o h n => ?_⟩⟩
    · obtain ⟨hz, o, ho⟩ := f0 x hx
      refine ⟨?_, by rw [ho]; exact (e.fr x o ho (nf x hx)).1⟩
      cases q : Z' x with
      | none => rfl
      | some u =>
        rcases e.zn x (by rw [q]; simp) with h | h | h
        · exact absurd hz h
        · exact absurd h (nf x hx)
        · rw [ho] at h; cases h
    · obtain ⟨_, o, ho⟩ := f0 x hx
      exact (e.fr x o ho (nf x hx)).2
    · rcases e.zn a h with h | h | h
      · exact .inl h
      · exact .inr (.inl ((m0 a).mpr (.inr h)))
      · exact .inr (.inr h)
    · have na : a ∉ Fa := fun z => n ((m0 a).mpr (.inr z))
      obtain ⟨h1, h2⟩ := e.fr a o h na
      exact ⟨h1, fun z => (List.mem_append.mp z).elim h2 fun z => n ((m0 a).mpr (.inl z))⟩
  refine ⟨_, ts, Fa, _, _, hn, s2, ra, hk, fun Z' H' v r Γp Fp Gr s' e' rp rr nr qq => ?_, fun Z' H' C dd fs Γp Fp s' e' rp hd qq => ?_⟩
  · obtain ⟨rr0, nn0, ee⟩ := outF e'
    obtain ⟨F', rF, mF⟩ := args_in rr0 a2 rp (fun x hx hx' => nn0 x hx' (List.mem_append_left _ hx))
    refine k Z' H' _ F' r v Gr s' ((e2.trans ee).sub fun x hx => ?_) rF rr (fun x hx hx' => ?_) qq
    · rcases List.mem_append.mp hx with h | h
      · rcases mF x h with h | h
        · exact List.mem_append_right _ h
        · exact List.mem_append_left _ (List.mem_append_left _ h)
      · exact List.mem_append_left _ (List.mem_append_right _ h)
    · rcases mF x hx' with h | h
      · exact nn0 x h (List.mem_append_right _ hx)
      · exact nr x hx h
  · obtain ⟨rr0, nn0, ee⟩ := outF e'
    obtain ⟨F', rF, mF⟩ := args_in rr0 a2 rp (fun x hx hx' => nn0 x hx' hx)
    refine x Z' H' _ F' C dd fs s' ((e2.trans ee).sub fun x hx => ?_) rF hd qq
    rcases mF x hx with h | h
    · exact List.mem_append_right _ h
    · exact List.mem_append_left _ h
end
end VL
set_option Elab.async false
set_option linter.all false
set_option autoImplicit false
set_option maxRecDepth 100000
set_option maxHeartbeats 2000000
/-! VL8: calls of defs, methods, classes; a def by its body. -/
namespace VL
open PySem PySem.Spec L2
open PyProof.Rows hiding St

/-- room below, and nothing is being shown -/
structure RoomG (k : Nat) (A : Around) : Prop where
  room : Room k A
  gd : A.guards = some []
theorem RoomG.mono {j k : Nat} {A : Around} (r : RoomG k A) (h : j ≤ k) : RoomG j A := ⟨r.room.mono h, r.gd⟩
theorem RoomG.deeper {k : Nat} {A : Around} (r : RoomG (k + 1) A) (env : Env) : RoomG k (A.deeper env) := ⟨r.room.deeper env, r.gd⟩
theorem RoomG.make {k : Nat} {A : Around} (r : RoomG (k + 1) A) (C : Addr) (us : List Value) (kw : List (Str × Value)) : RoomG k (A.under (.builtin "type.__call__" ⟨.ref C :: us, kw⟩)) := ⟨r.room.make C us kw, by
  unfold Around.under
  show pushGuards (Code.guards (.builtin "type.__call__" ⟨.ref C :: us, kw⟩)) A.guards = some []
  rw [show Code.guards (.builtin "type.__call__" ⟨.ref C :: us, kw⟩) = [] from by unfold Code.guards; rw [show Code.isGuard (.builtin "type.__call__" ⟨.ref C :: us, kw⟩) = false from by show List.contains _ _ = false; decide +kernel] <;> rfl, r.gd]
  rfl⟩
/-- a def's promise, where nothing is being shown -/
structure FnG (P : Program) (w : World) (K : PySem.W.Frag) (mg : Str → Option Value) (base : Heap) (k : Nat) (f : Addr) (fd : FuncData) (ps : List Str) (sp : Sp) : Prop where
  len : ∀ vs H Q E, sp vs H Q E → vs.length = ps.length
  run : ∀ (A : Around) (outer : List Env) (s : Shared) (H : Hp) (args : Args) (us : List Value) (vs : List V) (Q : VK) (E : XK), RoomG k A → Env0 P w K mg base A outer s H → BindsTo s fd args (ps.zip us) → Vals vs us → sp vs H Q E → codeAny (model P w) A (.call (.ref f) args) (CR (L2.CX P w) outer P w H s Q E) s
theorem FnG.mono {P : Program} {w : World} {K : PySem.W.Frag} {mg : Str → Option Value} {base : Heap} {j k : Nat} {f : Addr} {fd : FuncData} {ps : List Str} {sp : Sp} (F : FnG P w K mg base j f fd ps sp) (h : j ≤ k) : FnG P w K mg base k f fd ps sp := ⟨F.len, fun A outer s H args us vs Q E hr => F.run A outer s H args us vs Q E (hr.mono h)⟩
theorem run_fnG {X : Cx} {k : Nat} {f : Addr} {fd : FuncData} {ps : List Str} {sp : Sp} {E : St → XK} {pins : List (Addr × Obj)} {σ : St} {H : Hp} {st : Shared} {Q : VK} {us : List Value} {vs : List V} (F : FnG X.prog X.w X.K X.mg X.base k f fd ps sp) (hr : RoomG k X.A) (hb : Binds X.K fd ps []) (hx : PassesAt (L2.CX X.prog X.w) X σ (E σ))
    (I : Inv X pins σ H st) (r : Vals vs us) (q : sp vs H Q (E σ)) : wpAny (model X.prog X.w) X.A (call (.ref f) us) (EP X pins σ Q) X.xe st := by
  have lu : us.length = ps.length := by rw [← r.length]; exact F.len _ _ _ _ q
  have bt := hb st us I.kIn (by rw [List.append_nil]; exact lu)
  rw [List.append_nil] at bt
  refine wpAny_call (codeAny_mono (F.run X.A X.stack st H ⟨us, []⟩ us vs Q (E σ) hr I.env0 bt r q) fun res s2 hres => ?_)
  cases res with
  | error z => exact hx pins H st z s2 I hres
  | ok fl =>
    cases fl with
    | ret u => exact I.after hres
    | _ => exact hres.elim
section
variable {X : Cx} {W : WX} {lv : Nat} {fa C : Addr} {fd : FuncData} {ps : List Str} {sp : VSp} {nm mt : Str} {p pos apos : Pos} {e o : Expr} {es : List Expr}
abbrev VFn (X : Cx) (k : Nat) (f : Addr) (fd : FuncData) (ps : List Str) (sp : VSp) : Prop := FnG X.prog X.w X.K X.mg X.base k f fd ps (lift X.K ps.length sp)
def mCall (sp : VSp) (g : MG) : ME := fun Γ R XR => g Γ (fun as Γ' => call1 sp as Γ' R XR) XR
theorem pe_cS {s0 : Sp} {E : St → XK} {t : TA} (F : FnG X.prog X.w X.K X.mg X.base lv fa fd ps s0) (hr : RoomG lv X.A) (hg : Gl X nm) (hm : X.mg nm = some (.ref fa)) (hk : PySem.W.keepIn X.K (.ref fa) = true) (hb : Binds X.K fd ps []) (hx : ∀ σ, PassesAt (L2.CX X.prog X.w) X σ (E σ)) (ha : PA X (e :: es) t)
    (hdb : (nm == ("__debug__" : Str)) = false := by decide) (he : starEach (e :: es) X.env = (false, eval e X.env) :: starEach es X.env := by rfl) (hpl : (backTo pos (starEach es X.env)).any (·.1) = false := by rfl) : PE X (.Call (.Name nm p) (e :: es) [] pos) (fun σ H Q => t σ H fun vs H1 => s0 vs H1 Q (E σ)) := by
  constructor
  intro pn st σ H Q inv want
  apply wpAny_Call_Name_kw
  apply ld_glob inv hg hm _ hdb
  apply PySem.W.callWith_K (h₀ := X.base) inv.ok.mod.kin hk _ he hpl
  apply thn (ha.run pos pn st σ H _ inv want)
  rintro us s1 ⟨vs, H1, i1, r, q⟩
  exact ⟨i1.kIn, run_fnG F hr hb (hx σ) i1 r q⟩
theorem ve_call {g : MG} (F : VFn X lv fa fd ps sp) (hr : RoomG lv X.A) (hg : Gl X nm) (hm : X.mg nm = some (.ref fa)) (hk : PySem.W.keepIn X.K (.ref fa) = true) (hb : Binds X.K fd ps []) (tk : Takes X W)
    (ha : VG X W (e :: es) g) (hn : (e :: es).length = ps.length := by rfl) (hdb : (nm == ("__debug__" : Str)) = false := by decide) (he : starEach (e :: es) X.env = (false, eval e X.env) :: starEach es X.env := by rfl) (hpl : (backTo pos (starEach es X.env)).any (·.1) = false := by rfl) :
    VE X W (.Call (.Name nm p) (e :: es) [] pos) (mCall sp g) := by
  obtain ⟨t, pa, sn⟩ := ha.ex
  refine ⟨_, pe_cS F hr hg hm hk hb (fun σ => passAt tk σ) pa hdb he hpl, fun Z H σ Γ F0 R XR Q hs rs m k x => ?_⟩
  exact sn Z H σ Γ F0 _ XR _ hs rs m (fun Z' H' Γ' F' as vs G s1 e1 r1 a1 n1 l1 q => call_snd k x s1 e1 r1 a1 n1 (l1.trans hn) q) x
/-- a call without arguments -/
theorem pe_cS0 {s0 : Sp} {E : St → XK} (F : FnG X.prog X.w X.K X.mg X.base lv fa fd ps s0) (hr : RoomG lv X.A) (hg : Gl X nm) (hm : X.mg nm = some (.ref fa)) (hk : PySem.W.keepIn X.K (.ref fa) = true) (hb : Binds X.K fd ps []) (hx : ∀ σ, PassesAt (L2.CX X.prog X.w) X σ (E σ))
    (hdb : (nm == ("__debug__" : Str)) = false := by decide) : PE X (.Call (.Name nm p) [] [] pos) (fun σ H Q => s0 [] H Q (E σ)) := by
  constructor
  intro pn st σ H Q inv want
  apply wpAny_Call_Name_kw
  apply ld_glob inv hg hm _ hdb
  exact PySem.W.callWith_K0 inv.kIn hk (run_fnG F hr hb (hx σ) inv Paired.nil want)
theorem ve_call0 (F : VFn X lv fa fd ps sp) (hr : RoomG lv X.A) (hg : Gl X nm) (hm : X.mg nm = some (.ref fa)) (hk : PySem.W.keepIn X.K (.ref fa) = true) (hb : Binds X.K fd ps []) (tk : Takes X W)
    (hn : 0 = ps.length := by rfl) (hdb : (nm == ("__debug__" : Str)) = false := by decide) : VE X W (.Call (.Name nm p) [] [] pos) (mCall sp g0) :=
  ⟨_, pe_cS0 F hr hg hm hk hb (fun σ => passAt tk σ) hdb, fun Z H σ Γ F0 R XR Q hs rs m k x =>
    call_snd (as := []) (vs := []) (G := []) k x hs (by simpa using Ext.refl Z H F0) rs .nil (fun x hx => absurd hx (by simp)) hn m⟩

/-! ### methods -/
theorem pe_mS {s0 : Sp} {E : St → XK} {pl : Sem Bool} {ta : TE} {t : TA} (he : PE X o ta) (c : Cls X.K C) (hm : Meth X.K C mt fa) (F : FnG X.prog X.w X.K X.mg X.base lv fa fd ps s0) (hr : RoomG lv X.A) (hb : Binds X.K fd ps []) (hx : ∀ σ, PassesAt (L2.CX X.prog X.w) X σ (E σ)) (ha : PA X (e :: es) t)
    (hst : starEach (e :: es) X.env = (false, eval e X.env) :: starEach es X.env := by rfl) (hpl : (backTo pos (starEach es X.env)).any (·.1) = false := by rfl)
    (ht : eval (.Call (.Attribute o mt apos) (e :: es) [] pos) X.env = (do
      let recv ← eval o X.env
      standAt apos.atName
      let (fn, fst) ← holding [recv] (getMethod recv mt pl)
      callWith pos fn fst (backTo pos (starEach (e :: es) X.env)) (backToKw pos (keywordEach [] X.env))) := by rfl) :
    PE X (.Call (.Attribute o mt apos) (e :: es) [] pos) (fun σ H Q => ta σ H fun x H1 => ∃ a dx fs, x = .ref a ∧ H1 a = some (.ins C dx fs) ∧ fs.lookup mt = none ∧ t σ H1 fun vs H2 => s0 (x :: vs) H2 Q (E σ)) := by
  constructor
  intro pn st σ H Q inv want
  apply PySem.W.methodCall_KW (pl := pl) _ ht
  apply thn (he.run pn st σ H _ inv want)
  rintro u s1 ⟨x, H1, i1, rx, a, dx, fs, ex, ea, l, q⟩
  subst ex
  obtain rfl : u = Value.ref a := rx
  apply getmeth_ok i1 ea c hm l
  apply PySem.W.callWith_K (first := [Value.ref a]) (h₀ := X.base) i1.ok.mod.kin hm.kp _ hst hpl
  apply thn (ha.run pos pn s1 σ H1 _ i1 q)
  rintro us s2 ⟨vs, H2, i2, r, q2⟩
  exact ⟨i2.kIn, run_fnG F hr hb (hx σ) i2 (Paired.cons (show RelV (V.ref a) (Value.ref a) from rfl) r) q2⟩
theorem pe_mS0 {s0 : Sp} {E : St → XK} {pl : Sem Bool} {ta : TE} (he : PE X o ta) (c : Cls X.K C) (hm : Meth X.K C mt fa) (F : FnG X.prog X.w X.K X.mg X.base lv fa fd ps s0) (hr : RoomG lv X.A) (hb : Binds X.K fd ps []) (hx : ∀ σ, PassesAt (L2.CX X.prog X.w) X σ (E σ))
    (ht : eval (.Call (.Attribute o mt apos) [] [] pos) X.env = (do
      let recv ← eval o X.env
      standAt apos.atName
      let (fn, fst) ← holding [recv] (getMethod recv mt pl)
      callWith pos fn fst (backTo pos (starEach [] X.env)) (backToKw pos (keywordEach [] X.env))) := by rfl) :
    PE X (.Call (.Attribute o mt apos) [] [] pos) (fun σ H Q => ta σ H fun x H1 => ∃ a dx fs, x = .ref a ∧ H1 a = some (.ins C dx fs) ∧ fs.lookup mt = none ∧ s0 [x] H1 Q (E σ)) := by
  constructor
  intro pn st σ H Q inv want
  apply PySem.W.methodCall_KW (pl := pl) _ ht
  apply thn (he.run pn st σ H _ inv want)
  rintro u s1 ⟨x, H1, i1, rx, a, dx, fs, ex, ea, l, q⟩
  subst ex
  obtain rfl : u = Value.ref a := rx
  apply getmeth_ok i1 ea c hm l
  exact PySem.W.callWith_K0 (first := [Value.ref a]) i1.kIn hm.kp (run_fnG F hr hb (hx σ) i1 (Paired.cons (show RelV (V.ref a) (Value.ref a) from rfl) Paired.nil) q)
/-- an instance of the class C without an attribute of that name -/
def T.isI (t : T) (C : Addr) (m : Str) : Prop := match t with
  | .bo D fs => D = C ∧ fs.lookup m = none
  | .frz (.obj D fs) => D = C ∧ fs.lookup m = none
  | _ => False
theorem lookup_none {κ β γ : Type} [BEq κ] : ∀ {a : List (κ × β)} {b : List (κ × γ)}, a.map (·.1) = b.map (·.1) → ∀ {f : κ}, b.lookup f = none → a.lookup f = none
  | [], _, _, _, _ => rfl
  | _ :: _, [], e, _, _ => by simp at e
  | (k, x) :: a, (k', y) :: b, e, f, h => by
    simp only [List.map_cons, List.cons.injEq] at e
    obtain ⟨rfl, e⟩ := e
    rw [List.lookup_cons] at h ⊢
    cases hk : f == k with
    | true => rw [hk] at h; cases h
    | false => rw [hk] at h; exact lookup_none e h
theorem isI_at {K : PySem.W.Frag} {Z H : Hp} (hs : Same Z H) {t : T} {v : V} {G : List Addr} (rp : Rp K Z H t v G) {C : Addr} {m : Str} (h : t.isI C m) : ∃ (a dx : Addr) (fs : List (Str × V)), v = .ref a ∧ H a = some (.ins C dx fs) ∧ fs.lookup m = none := by
  cases rp with
  | frz r =>
    cases r with
    | obj h1 h2 h3 =>
      obtain ⟨e, h⟩ := h
      subst e
      exact ⟨_, _, _, rfl, hs _ _ h1, lookup_none h2 h⟩
    | _ => exact h.elim
  | bo h1 h2 h3 h4 h5 =>
    obtain ⟨e, h⟩ := h
    subst e
    exact ⟨_, _, _, rfl, h1, lookup_none h3 h⟩
  | _ => exact h.elim
/-- the receiver a name whose object the method may change -/
def mMethN (C : Addr) (m : Str) (i : Nat) (sp : VSp) (g : MG) : ME := fun Γ R XR => (∃ t, Γ[i]? = some (some t) ∧ t.isI C m) ∧ g Γ (fun as Γ' => call1 sp (.io i :: as) Γ' R XR) XR
/-- the receiver a value -/
def mMethE (C : Addr) (m : Str) (mo : ME) (sp : VSp) (g : MG) : ME := fun Γ R XR => mo Γ (fun t Γ1 => t.isI C m ∧ g Γ1 (fun as Γ2 => call1 sp (.tm t :: as) Γ2 R XR) XR) XR
theorem ve_methN (i : Nat) {x : Str} {px : Pos} {g : MG} (c : Cls X.K C) (hm : Meth X.K C mt fa) (F : VFn X lv fa fd ps sp) (hr : RoomG lv X.A) (hb : Binds X.K fd ps []) (tk : Takes X W) (ha : VG X W (e :: es) g) (hn : (e :: es).length + 1 = ps.length := by rfl)
    (hN : X.N[i]? = some x := by rfl) (hv : Vis X.env.scope x := by first | exact Or.inl rfl | exact Or.inr (Or.inl rfl) | exact Or.inr (Or.inr rfl)) (hd : (x == ("__debug__" : Str)) = false := by decide) (hcd : (x == ("__classdict__" : Str)) = false := by decide)
    {pl : Sem Bool} (hst : starEach (e :: es) X.env = (false, eval e X.env) :: starEach es X.env := by rfl) (hpl : (backTo pos (starEach es X.env)).any (·.1) = false := by rfl)
    (ht : eval (.Call (.Attribute (.Name x px) mt apos) (e :: es) [] pos) X.env = (do
      let recv ← eval (.Name x px) X.env
      standAt apos.atName
      let (fn, fst) ← holding [recv] (getMethod recv mt pl)
      callWith pos fn fst (backTo pos (starEach (e :: es) X.env)) (backToKw pos (keywordEach [] X.env))) := by rfl) :
    VE X W (.Call (.Attribute (.Name x px) mt apos) (e :: es) [] pos) (mMethN C mt i sp g) := by
  obtain ⟨t, pa, sn⟩ := ha.ex
  refine ⟨_, pe_mS (pe_var hN hv hd hcd) c hm F hr hb (fun σ => passAt tk σ) pa hst hpl ht, fun Z H σ Γ F0 R XR Q hs rs m k x => ?_⟩
  obtain ⟨⟨t, et, ti⟩, m⟩ := m
  obtain ⟨v, G, ev, rp, _⟩ := rs.at et
  obtain ⟨a, dx, fs, e1, e2, e3⟩ := isI_at hs rp ti
  refine ⟨v, ev, a, dx, fs, e1, e2, e3, ?_⟩
  exact sn Z H σ Γ F0 _ XR _ hs rs m (fun Z' H' Γ' F' as vs G s1 e1 r1 a1 n1 l1 q => call_snd k x s1 e1 r1 (.io ev a1) n1 (by rw [List.length_cons, l1]; exact hn) q) x
theorem ve_methN0 (i : Nat) {x : Str} {px : Pos} (c : Cls X.K C) (hm : Meth X.K C mt fa) (F : VFn X lv fa fd ps sp) (hr : RoomG lv X.A) (hb : Binds X.K fd ps []) (tk : Takes X W) (hn : 1 = ps.length := by rfl)
    (hN : X.N[i]? = some x := by rfl) (hv : Vis X.env.scope x := by first | exact Or.inl rfl | exact Or.inr (Or.inl rfl) | exact Or.inr (Or.inr rfl)) (hd : (x == ("__debug__" : Str)) = false := by decide) (hcd : (x == ("__classdict__" : Str)) = false := by decide)
    {pl : Sem Bool}
    (ht : eval (.Call (.Attribute (.Name x px) mt apos) [] [] pos) X.env = (do
      let recv ← eval (.Name x px) X.env
      standAt apos.atName
      let (fn, fst) ← holding [recv] (getMethod recv mt pl)
      callWith pos fn fst (backTo pos (starEach [] X.env)) (backToKw pos (keywordEach [] X.env))) := by rfl) :
    VE X W (.Call (.Attribute (.Name x px) mt apos) [] [] pos) (mMethN C mt i sp g0) := by
  refine ⟨_, pe_mS0 (pe_var hN hv hd hcd) c hm F hr hb (fun σ => passAt tk σ) ht, fun Z H σ Γ F0 R XR Q hs rs m k x => ?_⟩
  obtain ⟨⟨t, et, ti⟩, m⟩ := m
  obtain ⟨v, G, ev, rp, _⟩ := rs.at et
  obtain ⟨a, dx, fs, e1, e2, e3⟩ := isI_at hs rp ti
  refine ⟨v, ev, a, dx, fs, e1, e2, e3, ?_⟩
  exact call_snd (as := [.io i]) (vs := [v]) (G := []) k x hs (by simpa using Ext.refl Z H F0) rs (.io ev .nil) (fun x hx => absurd hx (by simp)) hn m
theorem ve_methE {mo : ME} {g : MG} (ho : VE X W o mo) (c : Cls X.K C) (hm : Meth X.K C mt fa) (F : VFn X lv fa fd ps sp) (hr : RoomG lv X.A) (hb : Binds X.K fd ps []) (tk : Takes X W) (ha : VG X W (e :: es) g) (hn : (e :: es).length + 1 = ps.length := by rfl)
    {pl : Sem Bool} (hst : starEach (e :: es) X.env = (false, eval e X.env) :: starEach es X.env := by rfl) (hpl : (backTo pos (starEach es X.env)).any (·.1) = false := by rfl)
    (ht : eval (.Call (.Attribute o mt apos) (e :: es) [] pos) X.env = (do
      let recv ← eval o X.env
      standAt apos.atName
      let (fn, fst) ← holding [recv] (getMethod recv mt pl)
      callWith pos fn fst (backTo pos (starEach (e :: es) X.env)) (backToKw pos (keywordEach [] X.env))) := by rfl) :
    VE X W (.Call (.Attribute o mt apos) (e :: es) [] pos) (mMethE C mt mo sp g) := by
  obtain ⟨to, po, so⟩ := ho.ex
  obtain ⟨t, pa, sn⟩ := ha.ex
  refine ⟨_, pe_mS po c hm F hr hb (fun σ => passAt tk σ) pa hst hpl ht, fun Z H σ Γ F0 R XR Q hs rs m k x => ?_⟩
  refine so Z H σ Γ F0 _ XR _ hs rs m (fun Z1 H1 Γ1 F1 t v G s1 e1 r1 p1 n1 q1 => ?_) x
  obtain ⟨a, dx, fs, g1, g2, g3⟩ := isI_at s1 p1 q1.1
  refine ⟨a, dx, fs, g1, g2, g3, ?_⟩
  refine sn Z1 H1 σ Γ1 F1 _ XR _ s1 r1 q1.2 (fun Z2 H2 Γ2 F2 as vs G2 s2 e2 r2 a2 n2 l2 q2 => ?_) (x.step e1)
  obtain ⟨kp, kn⟩ := e2.keeps p1 n1
  refine call_snd k x s2 ((e1.tr e2).sub fun a ha => ?_) r2 (.tm kp a2 fun a ha hb => kn a ha (List.mem_append_right _ hb)) (fun a ha hb => ?_) (by rw [List.length_cons, l2]; exact hn) q2
  · simp only [List.mem_append] at ha ⊢
    rcases ha with h | h | h
    · exact .inl (.inl h)
    · exact .inr h
    · exact .inl (.inr h)
  · rcases List.mem_append.mp ha with h | h
    · exact kn a h (List.mem_append_left _ hb)
    · exact n2 a h hb
theorem ve_methE0 {mo : ME} (ho : VE X W o mo) (c : Cls X.K C) (hm : Meth X.K C mt fa) (F : VFn X lv fa fd ps sp) (hr : RoomG lv X.A) (hb : Binds X.K fd ps []) (tk : Takes X W) (hn : 1 = ps.length := by rfl)
    {pl : Sem Bool}
    (ht : eval (.Call (.Attribute o mt apos) [] [] pos) X.env = (do
      let recv ← eval o X.env
      standAt apos.atName
      let (fn, fst) ← holding [recv] (getMethod recv mt pl)
      callWith pos fn fst (backTo pos (starEach [] X.env)) (backToKw pos (keywordEach [] X.env))) := by rfl) :
    VE X W (.Call (.Attribute o mt apos) [] [] pos) (mMethE C mt mo sp g0) := by
  obtain ⟨to, po, so⟩ := ho.ex
  refine ⟨_, pe_mS0 po c hm F hr hb (fun σ => passAt tk σ) ht, fun Z H σ Γ F0 R XR Q hs rs m k x => ?_⟩
  refine so Z H σ Γ F0 _ XR _ hs rs m (fun Z1 H1 Γ1 F1 t v G s1 e1 r1 p1 n1 q1 => ?_) x
  obtain ⟨a, dx, fs, g1, g2, g3⟩ := isI_at s1 p1 q1.1
  refine ⟨a, dx, fs, g1, g2, g3, ?_⟩
  exact call_snd (as := [.tm t]) (vs := [v]) (G := G ++ []) k x s1 (by simpa using e1) r1 (.tm p1 .nil (fun a _ hb => absurd hb (by simp))) (by simpa using n1) hn q1.2

/-! ### instances made -/
theorem mk_runS {s0 : Sp} {E : XK} {pn : List (Addr × Obj)} {σ : St} {H : Hp} {st : Shared} {Q : VK} {us : List Value} {vs : List V} (M : Mk X.K C fa) (F : FnG X.prog X.w X.K X.mg X.base lv fa fd ps s0) (hr : RoomG (lv + 1) X.A) (hb : Binds X.K fd ps []) (hx : PassesAt (L2.CX X.prog X.w) X σ E)
    (inv : Inv X pn σ H st) (r : Vals vs us) (h : ∀ x dx, H x = none → H dx = none → dx ≠ x → s0 (.ref x :: vs) (upd (upd H dx (.own x)) x (.ins C dx [])) (fun v H2 => v = .non ∧ Q (.ref x) H2) E) :
    wpAny (model X.prog X.w) X.A (call (.ref C) us) (EP X pn σ Q) X.xe st := by
  have want := h (st.heap.objs.size + 1) st.heap.objs.size (inv.hok.fresh (Nat.le_succ _)) (inv.hok.fresh (Nat.le_refl _)) (Nat.ne_of_lt (Nat.lt_succ_self _))
  have made := Inv.made (C := C) inv
  have rel : Vals (V.ref (st.heap.objs.size + 1) :: vs) (Value.ref (st.heap.objs.size + 1) :: us) := Paired.cons rfl r
  have len : (Value.ref (st.heap.objs.size + 1) :: us).length = ps.length := rel.length.symm.trans (F.len _ _ _ _ want)
  have bt := hb _ (Value.ref (st.heap.objs.size + 1) :: us) made.kIn (by rw [List.append_nil]; exact len)
  rw [List.append_nil] at bt
  refine wpAny_call (make_map (f := fa) inv.kIn M.makes M.init (beq_iff_eq.mp M.fn) (codeAny_mono (F.run _ X.stack _ _ ⟨Value.ref (st.heap.objs.size + 1) :: us, []⟩ _ _ _ E (hr.make C us []) (made.env0.make C us []) bt rel want) fun res s' hres => ?_))
  cases res with
  | error z => exact hx pn _ _ z s' made hres
  | ok fl =>
    cases fl with
    | ret u =>
      obtain ⟨v, H', i3, rv, ev, q3⟩ := made.after hres
      subst ev
      exact ⟨rv, ⟨.ref (st.heap.objs.size + 1), H', i3, rfl, q3⟩⟩
    | _ => exact hres.elim
theorem pe_kS {s0 : Sp} {E : St → XK} {t : TA} (M : Mk X.K C fa) (F : FnG X.prog X.w X.K X.mg X.base lv fa fd ps s0) (hr : RoomG (lv + 1) X.A) (hg : Gl X nm) (hm : X.mg nm = some (.ref C)) (hb : Binds X.K fd ps []) (hx : ∀ σ, PassesAt (L2.CX X.prog X.w) X σ (E σ))
    (ha : PA X (e :: es) t) (hdb : (nm == ("__debug__" : Str)) = false := by decide) (he : starEach (e :: es) X.env = (false, eval e X.env) :: starEach es X.env := by rfl) (hpl : (backTo pos (starEach es X.env)).any (·.1) = false := by rfl) :
    PE X (.Call (.Name nm p) (e :: es) [] pos) (fun σ H Q => t σ H fun vs H1 => ∀ x dx, H1 x = none → H1 dx = none → dx ≠ x → s0 (.ref x :: vs) (upd (upd H1 dx (.own x)) x (.ins C dx [])) (fun v H2 => v = .non ∧ Q (.ref x) H2) (E σ)) := by
  constructor
  intro pn st σ H Q inv want
  apply wpAny_Call_Name_kw
  apply ld_glob inv hg hm _ hdb
  apply PySem.W.callWith_K (h₀ := X.base) inv.ok.mod.kin M.kp _ he hpl
  apply thn (ha.run pos pn st σ H _ inv want)
  rintro us s1 ⟨vs, H1, i1, r, q⟩
  exact ⟨i1.kIn, mk_runS M F hr hb (hx σ) i1 r q⟩
/-- a call whose first argument is owned and comes back -/
theorem call_own {n : Nat} {Z1 H1 : Hp} {σ : St} {F1 G G0 : List Addr} {Γ : Sl} {R0 : T → Sl → Prop} {XR0 : XRl} {Q0 : VK} {E0 : XK} {as : List AV} {vs : List V} {t0 : T} {v0 : V}
    (s1 : Same Z1 H1) (r1 : Rsl X.K Z1 H1 Γ σ F1) (a1 : Avs X.K Z1 H1 σ as vs G) (n1 : ∀ x ∈ G, x ∉ F1) (p0 : Rp X.K Z1 H1 t0 v0 G0) (n0 : ∀ x ∈ G0, x ∉ F1 ∧ x ∉ G) (hn : vs.length + 1 = n) (q : argT as Γ fun ts => sp (t0 :: ts) R0 XR0)
    (hQ : ∀ Z' H' v r x Γq F' Fx Gr, Same Z' H' → Ext Z1 H1 (F1 ++ (G ++ G0)) Z' H' (F' ++ (Fx ++ Gr)) → Rsl X.K Z' H' (wb as Γq (clr as Γ)) σ F' → Rsl X.K Z' H' [x] [some v0] Fx → (∀ a ∈ Fx, a ∉ F') → Rp X.K Z' H' r v Gr → (∀ a ∈ Gr, a ∉ F' ∧ a ∉ Fx) → R0 r (x :: Γq) → Q0 v H')
    (hX : ∀ Z' H' C d fs Γp F', Same Z' H' → Ext Z1 H1 (F1 ++ (G ++ G0)) Z' H' F' → Rsl X.K Z' H' (wb as Γp.tail (clr as Γ)) σ F' → Xd X.K Z' d fs → XR0 C fs Γp → E0 (.ref C) d H') :
    lift X.K n sp (v0 :: vs) H1 Q0 E0 := by
  have h0 : ∀ x ∈ G, Z1 x = none := fun x hx => (a1.foot x hx).1
  have r2 := frz_slots r1 h0 n1
  have a2 := a1.freeze (frzH_same (H := H1) h0) frzH_at
  have s2 := frzH_below (F := G) s1
  have p2 : Rp X.K (frzH Z1 H1 G) H1 t0 v0 G0 := p0.mono (frzH_same h0) fun x hx => ⟨by rw [frzH_ne (n0 x hx).2]; exact (p0.foot x hx).1, rfl⟩
  obtain ⟨ts, F0, Fa, hk, r0, ra, m0, nd⟩ := args_out r2 a2 q
  have d0 : ∀ x ∈ G0, x ∉ Fa := fun x hx hx' => (n0 x hx).1 ((m0 x).mpr (.inr hx'))
  have d1 : ∀ x ∈ G0, x ∉ F0 := fun x hx hx' => (n0 x hx).1 ((m0 x).mpr (.inl hx'))
  have base : ∀ {Z' H' : Hp} {F' : List Addr}, Ext (frzH Z1 H1 G) H1 (G0 ++ Fa) Z' H' F' → Rsl X.K Z' H' (clr as Γ) σ F0 ∧ (∀ x ∈ F0, x ∉ F') ∧ Ext Z1 H1 (F1 ++ (G ++ G0)) Z' H' (F0 ++ F') := by
    intro Z' H' F' e
    have f0 : ∀ x ∈ F0, frzH Z1 H1 G x = none ∧ ∃ o, H1 x = some o := r0.foot
    have nf : ∀ x ∈ F0, x ∉ G0 ++ Fa := fun x hx hx' => (List.mem_append.mp hx').elim (fun z => d1 x z hx) fun z => nd x z hx
    refine ⟨r0.mono e.z fun x hx => ?_, fun x hx => ?_, ⟨(frzH_same h0).trans e.z, fun a h => ?_, fun a o h n => ?_⟩⟩
    · obtain ⟨hz, o, ho⟩ := f0 x hx
      refine ⟨?_, by rw [ho]; exact (e.fr x o ho (nf x hx)).1⟩
      cases q : Z' x with
      | none => rfl
      | some u =>
        rcases e.zn x (by rw [q]; simp) with h | h | h
        · exact absurd hz h
        · exact absurd h (nf x hx)
        · rw [ho] at h; cases h
    · obtain ⟨_, o, ho⟩ := f0 x hx
      exact (e.fr x o ho (nf x hx)).2
    · rcases e.zn a h with h | h | h
      · rcases frzH_zn h with h | h
        · exact .inl h
        · exact .inr (.inl (List.mem_append_right _ (List.mem_append_left _ h)))
      · rcases List.mem_append.mp h with h | h
        · exact .inr (.inl (List.mem_append_right _ (List.mem_append_right _ h)))
        · exact .inr (.inl (List.mem_append_left _ ((m0 a).mpr (.inr h))))
      · exact .inr (.inr h)
    · have na : a ∉ G0 ++ Fa := fun z => (List.mem_append.mp z).elim (fun z => n (List.mem_append_right _ (List.mem_append_right _ z))) fun z => n (List.mem_append_left _ ((m0 a).mpr (.inr z)))
      obtain ⟨h1, h2⟩ := e.fr a o h na
      exact ⟨h1, fun z => (List.mem_append.mp z).elim (fun z => n (List.mem_append_left _ ((m0 a).mpr (.inl z)))) h2⟩
  refine ⟨_, t0 :: ts, G0 ++ Fa, _, _, by simpa using hn, s2, .cons p2 ra d0, hk, fun Z' H' v r Γp Fp Gr s' e' rp rr nr qq => ?_, fun Z' H' C dd fs Γp Fp s' e' rp hd qq => ?_⟩
  · obtain ⟨rr0, nn0, ee⟩ := base e'
    have key : ∃ x Γq Fx Fq, Γp = x :: Γq ∧ Rsl X.K Z' H' [x] [some v0] Fx ∧ Rsl X.K Z' H' Γq (vs.map some) Fq ∧ (∀ a, a ∈ Fp ↔ a ∈ Fx ∨ a ∈ Fq) ∧ ∀ a ∈ Fx, a ∉ Fq := by
      rw [List.map_cons] at rp
      cases rp with
      | gap rp => exact ⟨none, _, [], _, rfl, .gap .nil, rp, fun a => by simp, fun a ha => absurd ha (by simp)⟩
      | @has t _ Ft _ _ Fq h1 rp nn => exact ⟨some t, _, Ft ++ [], Fq, rfl, .has h1 .nil (fun a _ hb => absurd hb (by simp)), rp, fun a => by simp, by simpa using nn⟩
    obtain ⟨x, Γq, Fx, Fq, rfl, rx, rq, mm, nx⟩ := key
    obtain ⟨F', rF, mF⟩ := args_in rr0 a2 rq (fun a ha hb => nn0 a hb (List.mem_append_left _ ((mm a).mpr (.inr ha))))
    refine hQ Z' H' v r x Γq F' Fx Gr s' (ee.sub fun a ha => ?_) rF rx (fun a ha hb => ?_) rr (fun a ha => ⟨fun hb => ?_, fun hb => nr a ha ((mm a).mpr (.inl hb))⟩) qq
    · rcases List.mem_append.mp ha with h | h
      · rcases mF a h with h | h
        · exact List.mem_append_left _ h
        · exact List.mem_append_right _ (List.mem_append_left _ ((mm a).mpr (.inr h)))
      · rcases List.mem_append.mp h with h | h
        · exact List.mem_append_right _ (List.mem_append_left _ ((mm a).mpr (.inl h)))
        · exact List.mem_append_right _ (List.mem_append_right _ h)
    · rcases mF a hb with h | h
      · exact nn0 a h (List.mem_append_left _ ((mm a).mpr (.inl ha)))
      · exact nx a ha h
    · rcases mF a hb with h | h
      · exact nn0 a h (List.mem_append_right _ ha)
      · exact nr a ha ((mm a).mpr (.inr h))
  · obtain ⟨rr0, nn0, ee⟩ := base e'
    have key : ∃ Fq, Rsl X.K Z' H' Γp.tail (vs.map some) Fq ∧ ∀ a ∈ Fq, a ∈ Fp := by
      rw [List.map_cons] at rp
      cases rp with
      | gap rp => exact ⟨_, rp, fun a h => h⟩
      | has h1 rp nn => exact ⟨_, rp, fun a h => List.mem_append_right _ h⟩
    obtain ⟨Fq, rq, mm⟩ := key
    obtain ⟨F', rF, mF⟩ := args_in rr0 a2 rq (fun a ha hb => nn0 a hb (mm a ha))
    refine hX Z' H' C dd fs Γp F' s' (ee.sub fun a ha => ?_) rF hd qq
    rcases mF a ha with h | h
    · exact List.mem_append_left _ h
    · exact List.mem_append_right _ (mm a h)
def mMake (C : Addr) (sp : VSp) (g : MG) : ME := fun Γ R XR => g Γ (fun as Γ' => argT as Γ' fun ts => sp (.bo C [] :: ts) (fun r Γp => r = .frz .non ∧ ∃ t Γq, Γp = some t :: Γq ∧ R t (wb as Γq (clr as Γ'))) (fun C fs Γp => XR C fs (wb as Γp.tail (clr as Γ')))) XR
/-- the new instance stands ahead of the other arguments -/
theorem ve_make {g : MG} (M : Mk X.K C fa) (F : VFn X lv fa fd ps sp) (hr : RoomG (lv + 1) X.A) (hg : Gl X nm) (hm : X.mg nm = some (.ref C)) (hb : Binds X.K fd ps []) (tk : Takes X W) (ha : VG X W (e :: es) g) (hn : (e :: es).length + 1 = ps.length := by rfl)
    (hdb : (nm == ("__debug__" : Str)) = false := by decide) (he : starEach (e :: es) X.env = (false, eval e X.env) :: starEach es X.env := by rfl) (hpl : (backTo pos (starEach es X.env)).any (·.1) = false := by rfl) :
    VE X W (.Call (.Name nm p) (e :: es) [] pos) (mMake C sp g) := by
  obtain ⟨t, pa, sn⟩ := ha.ex
  refine ⟨_, pe_kS M F hr hg hm hb (fun σ => passAt tk σ) pa hdb he hpl, fun Z H σ Γ F0 R XR Q hs rs m k x => ?_⟩
  refine sn Z H σ Γ F0 _ XR _ hs rs m (fun Z1 H1 Γ1 F1 as vs G s1 e1 r1 a1 n1 l1 q y dy ny ndy ne => ?_) x
  have ny' : upd H1 dy (.own y) y = none := by rw [upd_ne ne.symm]; exact ny
  have st1 : PStep Z1 H1 Z1 (upd (upd H1 dy (.own y)) y (.ins C dy [])) := (PStep.new s1 ndy).trans (PStep.new ((PStep.new s1 ndy).zh) ny')
  have yF : y ∉ F1 := fun h => by obtain ⟨_, o, ho⟩ := r1.foot y h; rw [ny] at ho; cases ho
  have yG : y ∉ G := fun h => by obtain ⟨_, o, ho⟩ := a1.foot y h; rw [ny] at ho; cases ho
  have aa : Avs X.K Z1 (upd (upd H1 dy (.own y)) y (.ins C dy [])) σ as vs G := a1.mono (.refl _) fun z hz => by
    obtain ⟨h1, o, ho⟩ := a1.foot z hz
    exact ⟨h1, by rw [ho]; exact st1.h _ _ ho⟩
  have p0 : Rp X.K Z1 (upd (upd H1 dy (.own y)) y (.ins C dy [])) (.bo C []) (.ref y) [y] := .bo (F := []) (fs := []) (fs' := []) upd_same (s1.free ny) rfl .nil (by simp)
  have ex : Ext Z H F0 Z1 (upd (upd H1 dy (.own y)) y (.ins C dy [])) (F1 ++ (G ++ [y])) := by
    have e2 : Ext Z1 H1 (F1 ++ G) Z1 (upd (upd H1 dy (.own y)) y (.ins C dy [])) ((F1 ++ G) ++ [y]) := st1.ext (by intro z hz; rw [List.mem_singleton.mp hz]; exact ny)
    rw [← List.append_assoc]
    exact e1.trans e2
  refine call_own (t0 := .bo C []) st1.zh (st1.slots r1) aa n1 p0 (fun z hz => by rw [List.mem_singleton.mp hz]; exact ⟨yF, yG⟩) (by rw [l1]; exact hn) q (fun Z' H' v r c Γq F' Fx Gr s' e' rF rx nx rr nr qq => ?_) (fun Z' H' C2 dd fs Γp F' s' e' rF hd qq => ?_)
  · obtain ⟨er, t, Γq', eq, qq⟩ := qq
    subst er
    cases eq
    cases rr with
    | frz rz =>
      cases rz
      refine ⟨rfl, ?_⟩
      cases rx with
      | @has _ _ Ft _ _ F3 h1 h2 h3 =>
        cases h2
        rw [List.append_nil] at nx e'
        refine k Z' H' _ F' t (.ref y) Ft s' ((ex.trans e').sub fun a ha => ?_) rF h1 nx qq
        rcases List.mem_append.mp ha with h | h
        · exact List.mem_append_left _ h
        · exact List.mem_append_right _ (by simpa using h)
  · exact x Z' H' _ F' C2 dd fs s' (ex.trans e') rF hd qq
end
end VL
set_option Elab.async false
set_option linter.all false
set_option autoImplicit false
set_option maxRecDepth 100000
set_option maxHeartbeats 2000000
/-! VL9: a def by its body; containers changed; several names stored. -/
namespace VL
open PySem PySem.Spec L2
open PyProof.Rows hiding St

def fin (np n : Nat) (Γ : Sl) : Sl := Γ.take np ++ List.replicate (n - np) none
def begin_ (N : List Str) (ts : List T) : Sl := ts.map some ++ List.replicate (N.length - ts.length) none
def dEnds (np n : Nat) (R : T → Sl → Prop) (XR : XRl) : VEnds where
  nx := fun Γ => R (.frz .non) (fin np n Γ)
  rt := fun t Γ => R t (fin np n Γ)
  bk := fun _ => False
  ct := fun _ => False
  xr := fun C fs Γ => XR C fs (fin np n Γ)
section
variable {K : PySem.W.Frag} {Z H : Hp}
theorem rsl_begin : ∀ {ts : List T} {vs : List V} {F : List Addr} (n : Nat), Rps K Z H ts vs F → Rsl K Z H (ts.map some ++ List.replicate n none) (vs.map some ++ List.replicate n none) F
  | [], _, _, 0, .nil => .nil
  | [], _, _, n + 1, .nil => .gap (rsl_begin n .nil)
  | t :: ts, _, _, n, .cons h r d => .has h (rsl_begin n r) d
theorem rsl_none : ∀ (σ : St), Rsl K Z H (List.replicate σ.length none) σ []
  | [] => .nil
  | _ :: σ => .gap (rsl_none σ)
theorem rsl_fin : ∀ {Γ : Sl} {σ : St} {F : List Addr} {vs : List V} (np : Nat), Rsl K Z H Γ σ F → np ≤ vs.length → σ.take np = (vs.map some).take np → ∃ F', Rsl K Z H (fin np vs.length Γ) (vs.map some) F' ∧ ∀ x ∈ F', x ∈ F
  | Γ, σ, F, vs, 0, _, _, _ => ⟨[], by
      have := rsl_none (K := K) (Z := Z) (H := H) (vs.map some)
      rw [List.length_map] at this
      simpa [fin] using this, fun x hx => absurd hx (by simp)⟩
  | _, _, _, [], np + 1, _, h, _ => absurd h (by simp)
  | _, _, _, v :: vs, np + 1, .nil, _, e => by simp at e
  | _, _, _, v :: vs, np + 1, .gap (Γ := Γ) r, h, e => by
    simp only [List.map_cons, List.take_succ_cons, List.cons.injEq] at e
    obtain ⟨F', r', s⟩ := rsl_fin np r (by simpa using h) e.2
    refine ⟨F', ?_, s⟩
    have : fin (np + 1) (vs.length + 1) (none :: Γ) = none :: fin np vs.length Γ := by unfold fin; simp
    rw [List.length_cons, this]
    exact .gap r'
  | _, _, _, v :: vs, np + 1, .has (t := t) (Γ := Γ) hp r n, h, e => by
    simp only [List.map_cons, List.take_succ_cons, List.cons.injEq] at e
    obtain ⟨F', r', s⟩ := rsl_fin np r (by simpa using h) e.2
    have e1 := e.1
    simp only [Option.some.injEq] at e1
    subst e1
    have : fin (np + 1) (vs.length + 1) (some t :: Γ) = some t :: fin np vs.length Γ := by unfold fin; simp
    rw [List.length_cons, this]
    exact ⟨_, .has hp r' fun x hx hx' => n x hx (s x hx'), fun x hx => (List.mem_append.mp hx).elim (List.mem_append_left _) fun q => List.mem_append_right _ (s x q)⟩
end
section
variable {P : Program} {w : World} {K : PySem.W.Frag} {mg : Str → Option Value} {base : Heap}
/-- the context of a def's body -/
abbrev BX (P : Program) (w : World) (K : PySem.W.Frag) (mg : Str → Option Value) (base : Heap) (N : List Str) (qual : Str) (st : Stmt) (f : Addr) (cdv : Value) (A : Around) (outer : List Env) (s : Shared) (H : Hp) (E : XK) : Cx :=
  cxOf (L2.CX P w) P w K mg base N qual (defScope st) f cdv A outer s H E
abbrev BW (E : XK) : WX := fun cls d _ H => E cls d H
/-- a def's function object by its body, where nothing is being shown -/
theorem fnG_of {x qual : Str} {params : Arguments} {body : List Stmt} {scope : Scope} {dvs : List V} {kws : List (Str × V)} {f : Addr} {fd : FuncData} {N ps : List Str} {k : Nat} {sp : Sp} (F : FunD K x qual params body scope dvs kws f fd) (S : FnScope N ps scope) (len : ∀ vs H Q E, sp vs H Q E → vs.length = ps.length)
    (hbody : ∀ (cdv : Value) (A : Around) (outer : List Env) (s : Shared) (H : Hp) (vs : List V) (Q : VK) (E : XK), RoomG k (A.deeper (envOfC qual scope s.heap.objs.size f cdv)) → sp vs H Q E → ∃ t, PSs (cxOf (L2.CX P w) P w K mg base N qual scope f cdv A outer s H E) body t ∧ t { nx := fun _ H' => Q .non H', rt := Q } (L2.start N vs) H) : FnG P w K mg base (k + 1) f fd ps sp := by
  obtain ⟨oc, od, dV, kV, doc, pm, an, cdv, ct, osl, rfl, lk, hcd, _, _⟩ := F.ex
  refine ⟨len, fun A outer s H args us vs Q E hr e0 hb rv hsp => ?_⟩
  have lv := len _ _ _ _ hsp
  have KX : K.In s.heap := e0.mod.kin.keeps fun b o e => (e0.bs b o e).1
  have nolim : s.heap.NoLimit := e0.mod.nolimit.keeps fun b o e => (e0.bs b o e).1
  have kinds : ∀ y ∈ ps.zip us, scope.names.lookup y.1 = some .local ∨ (scope.names.lookup y.1 = some .cell ∧ ((cellsFrom (s.heap.objs.size + 1) scope.names []).lookup y.1).isSome = true) := fun y hy => (S.par y.1 (List.of_mem_zip (a := y.1) (b := y.2) hy).1).elim .inl fun q => .inr ⟨q, PySem.W.cellsFrom_some _ _ _ (.inl q)⟩
  refine codeAny_call_function hr.room.depth (KX _ _ lk) rfl S.co S.gen rfl (PySem.W.codeRec_of KX hcd) (hb _ _ _ _ ?_)
  refine wpAny_newFunctionEnv_cells S.kind kinds fun env he st x => ?_
  cases he
  refine ⟨nolim.keeps x.toInCall.keep, codeAny_func ?_⟩
  obtain ⟨t, ht, hq⟩ := hbody cdv A outer s H vs Q E (hr.deeper _) hsp
  refine wpAny_mono (ht.run [] st (L2.start N vs) H _ (inv_start S hr.room.hd e0 lv rv x) hq) (fun fl s2 hs => ?_) fun _ _ z => z
  cases fl with
  | ret u =>
    obtain ⟨v, _, H2, J, ru, q⟩ := hs
    exact ⟨v, H2, J.os, J.bare, J.base, J.hok, ru, q⟩
  | next =>
    obtain ⟨_, H2, J, q⟩ := hs
    exact ⟨V.non, H2, J.os, J.bare, J.base, J.hok, rfl, q⟩
  | brk => obtain ⟨_, _, _, q⟩ := hs; exact q.elim
  | cont => obtain ⟨_, _, _, q⟩ := hs; exact q.elim
/-- THE RULE for a def -/
theorem vfn {x qual : Str} {st : Stmt} {dvs : List V} {kws : List (Str × V)} {f : Addr} {fd : FuncData} {N ps : List Str} {k : Nat} {sp : VSp} (np : Nat) (F : FunD K x qual (defArgs st) (defBody st) (defScope st) dvs kws f fd) (S : FnScope N ps (defScope st)) (hnp : np ≤ ps.length)
    (body : ∀ (cdv : Value) (A : Around) (outer : List Env) (s : Shared) (H : Hp) (E : XK), RoomG k (BX P w K mg base N qual st f cdv A outer s H E).A → Takes (BX P w K mg base N qual st f cdv A outer s H E) (BW E) → PassesOwn (model P w) (BX P w K mg base N qual st f cdv A outer s H E).A (BX P w K mg base N qual st f cdv A outer s H E).env (BX P w K mg base N qual st f cdv A outer s H E).xe →
      ∃ m, VSs (BX P w K mg base N qual st f cdv A outer s H E) (BW E) np (defBody st) m ∧ ∀ ts R XR, sp ts R XR → ts.length = ps.length → m (begin_ N ts) (dEnds np ps.length R XR)) :
    FnG P w K mg base (k + 1) f fd ps (lift K ps.length sp) := by
  refine fnG_of F S (fun vs H Q E h => ?_) (fun cdv A outer s H vs Q E hr h => ?_)
  · obtain ⟨Z, ts, F0, R, XR, hl, _⟩ := h
    exact hl
  · obtain ⟨Z, ts, F0, R, XR, hl, hs, rp, hsp, hR, hX⟩ := h
    obtain ⟨m, ⟨t, ps', sn⟩, hm⟩ := body cdv A outer s H E hr (takes_of rfl rfl rfl rfl) (passes_of rfl)
    have lt : ts.length = vs.length := Rps.length rp
    have e1 : N.length - ts.length = N.length - vs.length := by rw [lt]
    have st0 : start N vs = vs.map some ++ List.replicate (N.length - vs.length) none := rfl
    have tk : (start N vs).take np = (vs.map some).take np := by
      rw [st0, List.take_append_of_le_length (by rw [List.length_map, hl]; exact hnp)]
    refine ⟨t, ps', sn Z H (start N vs) (begin_ N ts) F0 (dEnds np ps.length R XR) _ hs ?_ (hm ts R XR hsp (lt.trans hl)) ⟨?_, ?_, ?_, ?_, ?_⟩⟩
    · unfold begin_
      rw [e1]
      exact rsl_begin _ rp
    · intro Z' H' σ' Γ' F' s1 e r pn q
      obtain ⟨F2, r2, sub⟩ := rsl_fin (vs := vs) np r (by omega) (pn.trans tk)
      rw [hl] at r2
      exact hR Z' H' .non (.frz .non) _ F2 [] s1 (by simpa using e.sub sub) r2 (.frz .non) (fun x hx => absurd hx (by simp)) q
    · intro Z' H' σ' Γ' F' s1 e r pn q
      exact q.elim
    · intro Z' H' σ' Γ' F' s1 e r pn q
      exact q.elim
    · intro Z' H' σ' Γ' F' rr v G s1 e r rv n pn q
      obtain ⟨F2, r2, sub⟩ := rsl_fin (vs := vs) np r (by omega) (pn.trans tk)
      rw [hl] at r2
      exact hR Z' H' v rr _ F2 G s1 (e.sub fun x hx => (List.mem_append.mp hx).elim (fun q => List.mem_append_left _ (sub x q)) (List.mem_append_right _)) r2 rv (fun x hx hx' => n x hx (sub x hx')) q
    · intro Z' H' σ' Γ' F' C dd fs s1 e r pn hd q
      obtain ⟨F2, r2, sub⟩ := rsl_fin (vs := vs) np r (by omega) (pn.trans tk)
      rw [hl] at r2
      exact hX Z' H' C dd fs _ F2 s1 (e.sub sub) r2 hd q
end

/-! ### containers changed in place: the container at a name -/
def slT (Γ : Sl) (i : Nat) (k : T → Prop) : Prop := match Γ[i]? with
  | some (some t) => k t
  | _ => False
theorem slT_at {Γ : Sl} {i : Nat} {k : T → Prop} (h : slT Γ i k) : ∃ t, Γ[i]? = some (some t) ∧ k t := by
  unfold slT at h
  split at h
  · exact ⟨_, by assumption, h⟩
  · exact h.elim
/-- one object of a slot's tree changed -/
theorem Rsl.chg {K : PySem.W.Frag} {Z H : Hp} {Γ : Sl} {σ : St} {F : List Addr} (rs : Rsl K Z H Γ σ F) {i : Nat} {t t' : T} {v : V} {G : List Addr} {H' : Hp} (et : Γ[i]? = some (some t)) (ev : σ[i]? = some (some v)) (rp : Rp K Z H t v G)
    (hk : ∀ a, a ∉ G → H' a = H a) {G' : List Addr} (rp' : Rp K Z H' t' v G') (sub : ∀ x ∈ G', x ∈ G) : ∃ F', Rsl K Z H' (Γ.set i (some t')) σ F' ∧ ∀ x ∈ F', x ∈ F := by
  obtain ⟨v2, G2, F0, ev2, rp2, rs0, mm, nn⟩ := rs.out et
  rw [ev] at ev2
  cases ev2
  have hG : ∀ x, x ∈ G2 ↔ x ∈ G := by
    have uniq : ∀ {t : T} {v : V} {G1 G2 : List Addr}, Rp K Z H t v G1 → Rp K Z H t v G2 → G1 = G2 := Rp.foot_eq
    intro x
    rw [uniq rp2 rp]
  have r1 : Rsl K Z H' (Γ.set i none) σ F0 := rs0.mono (.refl _) fun x hx => by
    obtain ⟨hz, o, ho⟩ := rs0.foot x hx
    exact ⟨hz, hk x fun q => nn x ((hG x).mpr q) hx⟩
  have hi : i < (Γ.set i none).length := by rw [List.length_set]; exact (List.getElem?_eq_some_iff.mp et).1
  obtain ⟨F', r2, m2⟩ := r1.put hi rp' (fun x hx hx' => nn x ((hG x).mpr (sub x hx)) hx')
  rw [set_same ev, List.set_set] at r2
  exact ⟨F', r2, fun x hx => (m2 x hx).elim (fun h => (mm x).mpr (.inr h)) fun h => (mm x).mpr (.inl ((hG x).mpr (sub x h)))⟩
/-- what a method that changes its receiver says: of the receiver's tree and the arguments' data, the answer and the tree behind -/
def MutV (X : Cx) (ty : String) (id : String) (isTy : T → Prop) (op : T → List D → (D → T → Prop) → Prop) : Prop :=
  ∃ r, MtM X id r ∧ (∀ Z H t v G, Same Z H → Rp X.K Z H t v G → isTy t → tyV X.K ty v H) ∧
    ∀ Z H t v G ds vs (R : D → T → Prop) (Q : VK), Same Z H → Rp X.K Z H t v G → Rzs X.K Z ds vs → op t ds R →
      (∀ H' t' G' d u, Same Z H' → (∀ a, a ∉ G → H' a = H a) → Rp X.K Z H' t' v G' → (∀ x ∈ G', x ∈ G) → Rz X.K Z d u → R d t' → Q u H') → r v vs H Q
def mMut (i : Nat) (isTy : T → Prop) (op : T → List D → (D → T → Prop) → Prop) (g : MA) : ME := fun Γ R XR => slT Γ i isTy ∧ g Γ (fun ts Γ' => slT Γ' i fun t => op t (ts.map T.toD) fun d t' => R (.frz d) (Γ'.set i (some t'))) XR
section
variable {X : Cx} {W : WX}
theorem mut_snd {ty id : String} {isTy : T → Prop} {op : T → List D → (D → T → Prop) → Prop} {r : V → List V → Hp → VK → Prop}
    (h2 : ∀ Z H t v G ds vs (R : D → T → Prop) (Q : VK), Same Z H → Rp X.K Z H t v G → Rzs X.K Z ds vs → op t ds R →
      (∀ H' t' G' d u, Same Z H' → (∀ a, a ∉ G → H' a = H a) → Rp X.K Z H' t' v G' → (∀ x ∈ G', x ∈ G) → Rz X.K Z d u → R d t' → Q u H') → r v vs H Q)
    {Z H Z1 H1 : Hp} {σ : St} {F F1 G1 : List Addr} {Γ1 : Sl} {R : T → Sl → Prop} {Q : VK} {i : Nat} {v : V} {ts : List T} {vs : List V}
    (k : KOk X.K Z H F σ R Q) (s1 : Same Z1 H1) (e1 : Ext Z H F Z1 H1 (F1 ++ G1)) (r1 : Rsl X.K Z1 H1 Γ1 σ F1) (p1 : Rps X.K Z1 H1 ts vs G1) (n1 : ∀ x ∈ G1, x ∉ F1) (ev : σ[i]? = some (some v))
    (q1 : slT Γ1 i fun t => op t (ts.map T.toD) fun d t' => R (.frz d) (Γ1.set i (some t'))) : r v vs H1 Q := by
  obtain ⟨t, et, q⟩ := slT_at q1
  obtain ⟨f1, f2, f3, f4⟩ := frz_args s1 r1 p1 n1
  obtain ⟨v2, G, ev2, rp, sub⟩ := f3.at et
  rw [ev] at ev2
  cases ev2
  refine h2 _ H1 t v G _ vs _ Q f2 rp f4 q (fun H' t' G' d u sm hk rp' sub' rz qq => ?_)
  obtain ⟨F', r', m'⟩ := f3.chg et ev rp hk rp' sub'
  have ex := ext_frz e1 fun x hx => (p1.foot x hx).1
  have ex2 : Ext (frzH Z1 H1 G1) H1 F1 (frzH Z1 H1 G1) H' F' := ⟨.refl _, fun a h => .inl h, fun a o h n => ⟨by rw [hk a fun q => n (sub a q)]; exact h, fun q => n (m' a q)⟩⟩
  exact k _ H' _ F' (.frz d) u [] sm (by simpa using ex.trans ex2) r' (.frz rz) (fun x hx => absurd hx (by simp)) qq
theorem ve_mut1 {ty id : String} {isTy : T → Prop} {op : T → List D → (D → T → Prop) → Prop} {name x : Str} {i : Nat} {px apos cpos : Pos} {e : Expr} {es : List Expr} {g : MA}
    (pa : PlainAttrs ty) (slot : Slot ty name id) (hty : typeOf (.builtin id) = pure (.type "method_descriptor")) (h : MutV X ty id isTy op) (ha : VA X W (e :: es) g)
    (hN : X.N[i]? = some x := by rfl) (hv : Vis X.env.scope x := by first | exact Or.inl rfl | exact Or.inr (Or.inl rfl) | exact Or.inr (Or.inr rfl)) (hd : (x == ("__debug__" : Str)) = false := by decide) (hcd : (x == ("__classdict__" : Str)) = false := by decide)
    (hbase : attributeBase (.Name x px) name X.env (eval (.Name x px) X.env) = eval (.Name x px) X.env := by rfl)
    (hfew : ((backTo cpos (starEach (e :: es) X.env)).all (fun x => !x.1) && (backToKw cpos (keywordEach [] X.env)).all (fun x => x.1.isSome) && decide ((e :: es).length + ([] : List Keyword).length + (if ([] : List Keyword).isEmpty then 0 else 1) < 30)) = true := by rfl)
    (hline : (apos.endLine == cpos.line) = true := by rfl) (hs : starEach (e :: es) X.env = (false, eval e X.env) :: starEach es X.env := by rfl) (hplain : (backTo cpos (starEach es X.env)).any (·.1) = false := by rfl) :
    VE X W (.Call (.Attribute (.Name x px) name apos) (e :: es) [] cpos) (mMut i isTy op g) := by
  obtain ⟨r, h1, ht, h2⟩ := h
  obtain ⟨t, pe, sn⟩ := ha.ex
  refine ⟨_, pe_bm pa slot hty h1 (pe_var hN hv hd hcd) pe hbase hfew hline hs hplain, fun Z H σ Γ F R XR Q hs rs m k x => ?_⟩
  obtain ⟨t, et, hti⟩ := slT_at m.1
  obtain ⟨v, G, ev, rp, _⟩ := rs.at et
  refine ⟨v, ev, ht Z H t v G hs rp hti, ?_⟩
  exact sn Z H σ Γ F _ XR _ hs rs m.2 (fun Z1 H1 Γ1 F1 ts vs G1 s1 e1 r1 p1 n1 l1 q1 => mut_snd (ty := ty) (id := id) (isTy := isTy) h2 k s1 e1 r1 p1 n1 ev q1) x
theorem ve_mut0 {ty id : String} {isTy : T → Prop} {op : T → List D → (D → T → Prop) → Prop} {name x : Str} {i : Nat} {px apos cpos : Pos}
    (pa : PlainAttrs ty) (slot : Slot ty name id) (hty : typeOf (.builtin id) = pure (.type "method_descriptor")) (h : MutV X ty id isTy op)
    (hN : X.N[i]? = some x := by rfl) (hv : Vis X.env.scope x := by first | exact Or.inl rfl | exact Or.inr (Or.inl rfl) | exact Or.inr (Or.inr rfl)) (hd : (x == ("__debug__" : Str)) = false := by decide) (hcd : (x == ("__classdict__" : Str)) = false := by decide)
    (hbase : attributeBase (.Name x px) name X.env (eval (.Name x px) X.env) = eval (.Name x px) X.env := by rfl) (hline : (apos.endLine == cpos.line) = true := by rfl) :
    VE X W (.Call (.Attribute (.Name x px) name apos) [] [] cpos) (mMut i isTy op mA0) := by
  obtain ⟨r, h1, ht, h2⟩ := h
  refine ⟨_, pe_bm0 pa slot hty h1 (pe_var hN hv hd hcd) hbase hline, fun Z H σ Γ F R XR Q hs rs m k x => ?_⟩
  obtain ⟨t, et, hti⟩ := slT_at m.1
  obtain ⟨v, G, ev, rp, _⟩ := rs.at et
  refine ⟨v, ev, ht Z H t v G hs rp hti, ?_⟩
  exact mut_snd (ty := ty) (id := id) (isTy := isTy) (ts := []) (vs := []) (G1 := []) h2 k hs (by simpa using Ext.refl Z H F) rs .nil (fun x hx => absurd hx (by simp)) ev m.2
def T.isBl (t : T) : Prop := match t with
  | .bl _ => True
  | _ => False
def T.isBd (t : T) : Prop := match t with
  | .bd _ => True
  | _ => False
theorem ty_bl {K : PySem.W.Frag} {Z H : Hp} {t : T} {v : V} {G : List Addr} (r : Rp K Z H t v G) (h : t.isBl) : tyV K "list" v H := by
  cases r with
  | bl h1 _ _ => exact .inl ⟨rfl, _, .inl (.inl h1)⟩
  | _ => exact h.elim
theorem ty_bd {K : PySem.W.Frag} {Z H : Hp} {t : T} {v : V} {G : List Addr} (r : Rp K Z H t v G) (h : t.isBd) : tyV K "dict" v H := by
  cases r with
  | bd h1 _ _ _ => exact .inr (.inr (.inl ⟨rfl, .inl ⟨_, h1⟩⟩))
  | _ => exact h.elim
theorem chg_bl {K : PySem.W.Frag} {Z H : Hp} {a : Addr} {ds' : List D} {vs' : List V} (hz : Z a = none) (r : Rzs K Z ds' vs') : Rp K Z (upd H a (.lst vs')) (.bl ds') (.ref a) [a] := .bl upd_same hz r
theorem same_chg {Z H : Hp} (hs : Same Z H) {a : Addr} {o : HO} (hz : Z a = none) : Same Z (upd H a o) := fun b u e => by rw [upd_ne (ne_of_none e hz)]; exact hs _ _ e
def oAppend : T → List D → (D → T → Prop) → Prop := fun t es R => ∃ ds e, t = .bl ds ∧ es = [e] ∧ ds.length < sizeLine ∧ R .non (.bl (ds ++ [e]))
theorem mv_append : MutV X "list" "list.append" T.isBl oAppend := ⟨_, mt_append, fun _ _ _ _ _ _ r h => ty_bl r h, fun Z H t v G es us R Q hs rp rz ⟨ds, e, e1, e2, hl, q⟩ k => by
  subst e1; subst e2
  cases rp with
  | @bl _ vs a h1 h2 h3 =>
    cases rz with
    | cons r0 rn =>
      cases rn
      refine ⟨a, vs, _, rfl, rfl, h1, by rw [← h3.length]; exact hl, ?_⟩
      exact k _ (.bl (ds ++ [e])) [a] .non .non (same_chg hs h2) (fun b hb => upd_ne fun z => hb (by rw [z]; simp)) (chg_bl h2 (h3.append (.one r0))) (fun x hx => hx) .non q⟩
def oPop : T → List D → (D → T → Prop) → Prop := fun t es R => ∃ ds e, t = .bl ds ∧ es = [] ∧ ds[ds.length - 1]? = some e ∧ R e (.bl ds.dropLast)
theorem rzs_dropLast {K : PySem.W.Frag} {Z : Hp} {ds : List D} {vs : List V} (r : Rzs K Z ds vs) : Rzs K Z ds.dropLast vs.dropLast := by
  rw [List.dropLast_eq_take, List.dropLast_eq_take, r.length]
  exact r.take _
theorem mv_pop : MutV X "list" "list.pop" T.isBl oPop := ⟨_, mt_pop, fun _ _ _ _ _ _ r h => ty_bl r h, fun Z H t v G es us R Q hs rp rz ⟨ds, e, e1, e2, hl, q⟩ k => by
  subst e1; subst e2
  cases rz
  cases rp with
  | @bl _ vs a h1 h2 h3 =>
    obtain ⟨u, hu, ru⟩ := h3.get hl
    rw [h3.length] at hu
    refine ⟨a, vs, u, rfl, rfl, h1, hu, ?_⟩
    exact k _ (.bl ds.dropLast) [a] e u (same_chg hs h2) (fun b hb => upd_ne fun z => hb (by rw [z]; simp)) (chg_bl h2 (rzs_dropLast h3)) (fun x hx => hx) ru q⟩
def oPopAt : T → List D → (D → T → Prop) → Prop := fun t es R => ∃ ds i k e, t = .bl ds ∧ es = [.int i] ∧ -(2 ^ 63) ≤ i ∧ i < 2 ^ 63 ∧ seqIndex? i ds.length = some k ∧ ds[k]? = some e ∧ R e (.bl (ds.eraseIdx k))
theorem mv_popAt : MutV X "list" "list.pop" T.isBl oPopAt := ⟨_, mt_popAt, fun _ _ _ _ _ _ r h => ty_bl r h, fun Z H t v G es us R Q hs rp rz ⟨ds, i, j, e, e1, e2, b1, b2, hj, hl, q⟩ k => by
  subst e1; subst e2
  cases rp with
  | @bl _ vs a h1 h2 h3 =>
    cases rz with
    | cons r0 rn =>
      cases rn
      cases r0
      obtain ⟨u, hu, ru⟩ := h3.get hl
      refine ⟨a, vs, i, j, u, rfl, rfl, h1, b1, b2, by rw [← h3.length]; exact hj, hu, ?_⟩
      exact k _ (.bl (ds.eraseIdx j)) [a] e u (same_chg hs h2) (fun b hb => upd_ne fun z => hb (by rw [z]; simp)) (chg_bl h2 (h3.eraseIdx j)) (fun x hx => hx) ru q⟩
end
end VL
set_option Elab.async false
set_option linter.all false
set_option autoImplicit false
set_option maxRecDepth 100000
set_option maxHeartbeats 2000000
/-! VL10: targets, loops. -/
namespace VL
open PySem PySem.Spec L2
open PyProof.Rows hiding St

/-! ### targets -/
abbrev MG1 := D → Sl → (Sl → Prop) → Prop
def SndTg (K : PySem.W.Frag) (np : Nat) (t : TG) (g : MG1) : Prop :=
  ∀ Z H σ Γ F d v (R : Sl → Prop) (Q : St → Hp → Prop), Same Z H → Rsl K Z H Γ σ F → Rz K Z d v → g d Γ R →
    (∀ Z' H' σ' Γ' F', Same Z' H' → Ext Z H F Z' H' F' → Rsl K Z' H' Γ' σ' F' → σ'.take np = σ.take np → R Γ' → Q σ' H') → t v σ H Q
def SndTgs (K : PySem.W.Frag) (np : Nat) (t : TGs) (g : List D → Sl → (Sl → Prop) → Prop) : Prop :=
  ∀ Z H σ Γ F d v (R : Sl → Prop) (Q : St → Hp → Prop), Same Z H → Rsl K Z H Γ σ F → Rzs K Z d v → g d Γ R →
    (∀ Z' H' σ' Γ' F', Same Z' H' → Ext Z H F Z' H' F' → Rsl K Z' H' Γ' σ' F' → σ'.take np = σ.take np → R Γ' → Q σ' H') → t v σ H Q
structure VTg (X : Cx) (np : Nat) (tg : Expr) (g : MG1) : Prop where
  ex : ∃ t, PG X tg t ∧ SndTg X.K np t g
structure VTgs (X : Cx) (np : Nat) (tg : List Expr) (g : List D → Sl → (Sl → Prop) → Prop) : Prop where
  ex : ∃ t, PGs X tg t ∧ SndTgs X.K np t g
def tN (i : Nat) : MG1 := fun d Γ R => i < Γ.length ∧ R (Γ.set i (some (.frz d)))
def tNil : List D → Sl → (Sl → Prop) → Prop := fun ds Γ R => ds = [] ∧ R Γ
def tCons (g : MG1) (gs : List D → Sl → (Sl → Prop) → Prop) : List D → Sl → (Sl → Prop) → Prop := fun ds Γ R => ∃ d r, ds = d :: r ∧ g d Γ fun Γ' => gs r Γ' R
def tTup (n : Nat) (gs : List D → Sl → (Sl → Prop) → Prop) : MG1 := fun d Γ R => ∃ ds, d = .tup ds ∧ ds.length = n ∧ gs ds Γ R
section
variable {X : Cx} {np : Nat} {pos : Pos}
theorem vtg_name {i : Nat} {x : Str} (hN : X.N.Nodup) (hp : np ≤ i := by decide) (hi : X.N[i]? = some x := by rfl) (hx : Loc X.env.scope x := by first | exact Or.inl rfl | exact Or.inr rfl) (hf : X.fn x = true ∨ X.env.scope.names.lookup x = some .local := by first | exact .inl rfl | exact .inr rfl) : VTg X np (.Name x pos) (tN i) :=
  ⟨_, pg_name hN hi hx hf, fun Z H σ Γ F d v R Q hs rs rz m k => by
    obtain ⟨F', rs', sub⟩ := rs.put m.1 (.frz rz) (fun x hx => absurd hx (by simp))
    exact k Z H _ _ F' hs ((Ext.refl Z H F).sub fun x hx => (sub x hx).elim (fun h => h) fun h => absurd h (by simp)) rs' (take_set hp) m.2⟩
theorem vtgs_nil : VTgs X np [] tNil := ⟨_, pgs_nil, fun Z H σ Γ F d v R Q hs rs rz m k => by
  obtain ⟨e, m⟩ := m
  subst e
  cases rz
  exact ⟨rfl, k Z H _ _ F hs (.refl ..) rs rfl m⟩⟩
theorem vtgs_cons {e : Expr} {es : List Expr} {g : MG1} {gs : List D → Sl → (Sl → Prop) → Prop} (h : VTg X np e g) (hh : VTgs X np es gs)
    (hs : (assignEach (e :: es) X.env).map (·.2) = assign e X.env :: (assignEach es X.env).map (·.2) := by rfl) : VTgs X np (e :: es) (tCons g gs) := by
  obtain ⟨t, pg, sn⟩ := h.ex
  obtain ⟨t', pg', sn'⟩ := hh.ex
  refine ⟨_, pgs_cons pg pg' hs, fun Z H σ Γ F d v R Q hs rs rz m k => ?_⟩
  obtain ⟨d0, r, e, m⟩ := m
  subst e
  cases rz with
  | cons r0 rr =>
    refine ⟨_, _, rfl, sn Z H σ Γ F d0 _ _ _ hs rs r0 m fun Z1 H1 σ1 Γ1 F1 s1 e1 rs1 p1 q1 => ?_⟩
    exact sn' Z1 H1 σ1 Γ1 F1 r _ R _ s1 rs1 (rr.mono e1.z) q1 fun Z2 H2 σ2 Γ2 F2 s2 e2 rs2 p2 q2 => k Z2 H2 _ _ F2 s2 (e1.trans e2) rs2 (p2.trans p1) q2
theorem vtg_tup {es : List Expr} {kk : Nat} {gs : List D → Sl → (Sl → Prop) → Prop} (hc : X.calm = true) (h : VTgs X np es gs)
    (hn : (assignEach es X.env).length = es.length := by rfl) (hst : (assignEach es X.env).findIdx? (·.1) = none := by rfl) : VTg X np (.Tuple es kk pos) (tTup es.length gs) := by
  obtain ⟨t, pg, sn⟩ := h.ex
  refine ⟨_, pg_tup hc pg hn hst, fun Z H σ Γ F d v R Q hs rs rz m k => ?_⟩
  obtain ⟨ds, e, hl, m⟩ := m
  subst e
  cases rz with
  | tup h1 h2 => exact ⟨_, _, rfl, SqT.mono (rd_same hs) h1, h2.length.symm.trans hl, sn Z H σ Γ F ds _ R _ hs rs h2 m k⟩
/-- target = value, frozen -/
def sAsg (m : ME) (g : MG1) : MS := fun Γ M => m Γ (fun t Γ' => g t.toD Γ' M.nx) M.xr
theorem vs_asg {W : WX} {tg e : Expr} {m : ME} {g : MG1} (h : VE X W e m) (hg : VTg X np tg g) (hs : swapsWithSole [tg] e pos.line X.env = pure false := by rfl) (hw : swappedStores [tg] e X.env = pure none := by rfl)
    (h1 : (assignEach [tg] X.env).map (·.2) = [assign tg X.env] := by rfl) : VS X W np (.Assign [tg] e pos) (sAsg m g) := by
  obtain ⟨t, pe, sn⟩ := h.ex
  obtain ⟨u, pg, sg⟩ := hg.ex
  refine ⟨_, ps_asg pe pg hs hw h1, fun Z H σ Γ F M E hs rs m k => sn Z H σ Γ F _ M.xr _ hs rs m (fun Z' H' Γ' F' r v G s1 e1 r1 p1 n1 q => ?_) k.xok⟩
  have h0 : ∀ x ∈ G, Z' x = none := fun x hx => (p1.foot x hx).1
  have r2 := frz_slots r1 h0 n1
  have rz := p1.freeze (frzH_same (H := H') h0) frzH_at
  have s2 := frzH_below (F := G) s1
  have e2 := ext_frz e1 h0
  exact sg _ H' σ Γ' F' _ v _ _ s2 r2 rz q fun Z3 H3 σ' Γ2 F2 s3 e3 rs2 p2 q2 => k.nx Z3 H3 σ' Γ2 F2 s3 (e2.trans e3) rs2 p2 q2
/-! ### several names at once -/
def sPar (i j : Nat) (g : MA) : MS := fun Γ M => g Γ (fun ts Γ' => ∃ a b, ts = [a, b] ∧ i < Γ'.length ∧ j < Γ'.length ∧ M.nx ((Γ'.set i (some a)).set j (some b))) M.xr
def sPar3 (i j l : Nat) (g : MA) : MS := fun Γ M => g Γ (fun ts Γ' => ∃ a b c, ts = [a, b, c] ∧ i < Γ'.length ∧ j < Γ'.length ∧ l < Γ'.length ∧ M.nx (((Γ'.set i (some a)).set j (some b)).set l (some c))) M.xr
theorem vs_par {W : WX} {i j : Nat} {x y : Str} {a b : Expr} {g : MA} {px py pt : Pos} {kt k2 pt2} (hc : X.calm = true) (hN : X.N.Nodup) (ha : VA X W [a, b] g) (hpi : np ≤ i := by decide) (hpj : np ≤ j := by decide) (hij : i ≠ j := by decide) (hi : X.N[i]? = some x := by rfl) (hj : X.N[j]? = some y := by rfl)
    (hx : X.env.scope.names.lookup x = some .local := by rfl) (hy : X.env.scope.names.lookup y = some .local := by rfl)
    (hw : swappedStores [.Tuple [.Name x px, .Name y py] kt pt] (.Tuple [a, b] k2 pt2) X.env = pure (some [x, y]) := by rfl)
    (hs : swapsWithSole [.Tuple [.Name x px, .Name y py] kt pt] (.Tuple [a, b] k2 pt2) pos.line X.env = pure false := by rfl) : VS X W np (.Assign [.Tuple [.Name x px, .Name y py] kt pt] (.Tuple [a, b] k2 pt2) pos) (sPar i j g) := by
  obtain ⟨t, pa, sn⟩ := ha.ex
  refine ⟨_, ps_par hc hN hi hj hij hx hy pa hw hs, fun Z H σ Γ F M E hs rs m k => sn Z H σ Γ F _ M.xr _ hs rs m (fun Z' H' Γ' F' ts vs G s1 e1 r1 p1 n1 l1 q => ?_) k.xok⟩
  obtain ⟨ta, tb, e, li, lj, q⟩ := q
  subst e
  cases p1 with
  | @cons _ va Fa _ _ Fr h1 p1 d1 =>
    cases p1 with
    | @cons _ vb Fb _ _ _ h2 p2 d2 =>
      cases p2
      refine ⟨va, vb, rfl, ?_⟩
      obtain ⟨F2, rs2, sub2⟩ := r1.put li h1 (fun x hx => n1 x (by simp [hx]))
      obtain ⟨F3, rs3, sub3⟩ := rs2.put (by rw [List.length_set]; exact lj) h2 (fun x hx hx' => (sub2 x hx').elim (n1 x (by simp [hx])) fun z => d1 x z (by simp [hx]))
      refine k.nx Z' H' _ _ F3 s1 (e1.sub fun x hx => ?_) rs3 ((take_set hpj).trans (take_set hpi)) q
      rcases sub3 x hx with h | h
      · rcases sub2 x h with h | h
        · exact List.mem_append_left _ h
        · simp [h]
      · simp [h]
theorem vs_par3 {W : WX} {i j l : Nat} {x y z : Str} {a b c : Expr} {g : MA} {px py pz pt : Pos} {kt k2 pt2} (hc : X.calm = true) (hN : X.N.Nodup) (ha : VA X W [a, b, c] g) (hpi : np ≤ i := by decide) (hpj : np ≤ j := by decide) (hpl : np ≤ l := by decide) (hij : i ≠ j := by decide) (hil : i ≠ l := by decide) (hjl : j ≠ l := by decide)
    (hi : X.N[i]? = some x := by rfl) (hj : X.N[j]? = some y := by rfl) (hl : X.N[l]? = some z := by rfl)
    (hx : X.env.scope.names.lookup x = some .local := by rfl) (hy : X.env.scope.names.lookup y = some .local := by rfl) (hz : X.env.scope.names.lookup z = some .local := by rfl)
    (hw : swappedStores [.Tuple [.Name x px, .Name y py, .Name z pz] kt pt] (.Tuple [a, b, c] k2 pt2) X.env = pure (some [x, y, z]) := by rfl)
    (hs : swapsWithSole [.Tuple [.Name x px, .Name y py, .Name z pz] kt pt] (.Tuple [a, b, c] k2 pt2) pos.line X.env = pure false := by rfl) : VS X W np (.Assign [.Tuple [.Name x px, .Name y py, .Name z pz] kt pt] (.Tuple [a, b, c] k2 pt2) pos) (sPar3 i j l g) := by
  obtain ⟨t, pa, sn⟩ := ha.ex
  refine ⟨_, ps_par3 hc hN hi hj hl hij hil hjl hx hy hz pa hw hs, fun Z H σ Γ F M E hs rs m k => sn Z H σ Γ F _ M.xr _ hs rs m (fun Z' H' Γ' F' ts vs G s1 e1 r1 p1 n1 l1 q => ?_) k.xok⟩
  obtain ⟨ta, tb, tc, e, li, lj, ll, q⟩ := q
  subst e
  cases p1 with
  | @cons _ va Fa _ _ Fr h1 p1 d1 =>
    cases p1 with
    | @cons _ vb Fb _ _ _ h2 p2 d2 =>
      cases p2 with
      | @cons _ vc Fc _ _ _ h3 p3 d3 =>
        cases p3
        refine ⟨va, vb, vc, rfl, ?_⟩
        obtain ⟨F2, rs2, sub2⟩ := r1.put li h1 (fun x hx => n1 x (by simp [hx]))
        obtain ⟨F3, rs3, sub3⟩ := rs2.put (by rw [List.length_set]; exact lj) h2 (fun x hx hx' => (sub2 x hx').elim (n1 x (by simp [hx])) fun z => d1 x z (by simp [hx]))
        obtain ⟨F4, rs4, sub4⟩ := rs3.put (by rw [List.length_set, List.length_set]; exact ll) h3 (fun x hx hx' => (sub3 x hx').elim (fun hx' => (sub2 x hx').elim (n1 x (by simp [hx])) fun z => d1 x z (by simp [hx])) fun z => d2 x z (by simp [hx]))
        refine k.nx Z' H' _ _ F4 s1 (e1.sub fun x hx => ?_) rs4 (((take_set hpl).trans (take_set hpj)).trans (take_set hpi)) q
        rcases sub4 x hx with h | h
        · rcases sub3 x h with h | h
          · rcases sub2 x h with h | h
            · exact List.mem_append_left _ h
            · simp [h]
          · simp [h]
        · simp [h]
/-- name op= e, by values -/
def IpV (X : Cx) (op : Operator) (o : D → D → (T → Prop) → Prop) : Prop :=
  ∃ r : TIp, PIp X op r ∧ ∀ Z H d v d' v' R Q, Same Z H → Vw X.K Z H d v → Vw X.K Z H d' v' → o d d' R → PK X.K Z H R Q → r v v' H Q
theorem iv_add : IpV X .Add (oInt (fun _ _ => True) fun i j => i + j) := ⟨_, ip_add, fun Z H d v d' v' R Q hs w w' ⟨i, j, e1, e2, _, q⟩ k => by subst e1; subst e2; rw [w.intE, w'.intE]; exact ⟨i, j, rfl, rfl, k.frz hs (.int _) q⟩⟩
theorem iv_sub : IpV X .Sub (oInt (fun _ _ => True) fun i j => i - j) := ⟨_, ip_sub, fun Z H d v d' v' R Q hs w w' ⟨i, j, e1, e2, _, q⟩ k => by subst e1; subst e2; rw [w.intE, w'.intE]; exact ⟨i, j, rfl, rfl, k.frz hs (.int _) q⟩⟩
def sAug (i : Nat) (o : D → D → (T → Prop) → Prop) (m : ME) : MS := fun Γ M => slV Γ i (fun _ => True) ∧ vwM m Γ (fun e Γ' => slV Γ' i fun d => o d e fun t => i < Γ'.length ∧ M.nx (Γ'.set i (some t))) M.xr
theorem vs_aug {W : WX} {i : Nat} {x : Str} {e : Expr} {m : ME} {op : Operator} {o : D → D → (T → Prop) → Prop} {pos' : Pos} (hN : X.N.Nodup) (ho : IpV X op o) (h : VE X W e m) (hp : np ≤ i := by decide) (hi : X.N[i]? = some x := by rfl) (hx : Loc X.env.scope x := by first | exact Or.inl rfl | exact Or.inr rfl)
    (hf : X.fn x = true ∨ X.env.scope.names.lookup x = some .local := by first | exact .inl rfl | exact .inr rfl) : VS X W np (.AugAssign (.Name x pos') op e pos) (sAug i o m) := by
  obtain ⟨r, h1, h2⟩ := ho
  obtain ⟨t, pe, sn⟩ := h.ex
  refine ⟨_, ps_aug hN hi hx pe h1 hf, fun Z H σ Γ F M E hs rs m k => ?_⟩
  obtain ⟨v, _, ev, _, _⟩ := slV_at rs m.1
  refine ⟨v, ev, sn Z H σ Γ F _ M.xr _ hs rs m.2 (fun Z1 H1 Γ1 F1 t' v' G s1 e1 r1 p1 n1 q1 => ?_) k.xok⟩
  obtain ⟨d', g1, g2⟩ := T.vw_ex q1
  obtain ⟨v2, d, ev2, vw, q⟩ := slV_at r1 g2
  rw [ev] at ev2
  cases ev2
  have e1' := e1.sub fun _ h => List.mem_append_left _ h
  refine h2 Z1 H1 d v d' v' _ _ s1 vw (p1.view g1) q (fun Z2 H2 tt u G2 p2 hG rp qq => ?_)
  have r2 := p2.slots r1
  have nG : ∀ x ∈ G2, x ∉ F1 := fun x hx hx' => by
    obtain ⟨_, o, ho⟩ := r1.foot x hx'
    rw [hG x hx] at ho; cases ho
  obtain ⟨F3, rs3, sub3⟩ := r2.put qq.1 rp nG
  have ex := e1'.trans (p2.ext (F := F1) hG)
  exact k.nx Z2 H2 _ _ F3 p2.zh (ex.sub fun x hx => List.mem_append.mpr (sub3 x hx)) rs3 (take_set hp) qq.2
/-! ### while -/
def sWhile (c : MT) (b : MS) : MS := fun Γ M => ∃ I : Nat → Sl → Prop, (∃ n, I n Γ) ∧ ∀ n Γ, I n Γ → c Γ (fun t Γ' => if t = true then b Γ' { M with nx := fun Γ'' => ∃ n', n' < n ∧ I n' Γ'', ct := fun Γ'' => ∃ n', n' < n ∧ I n' Γ'', bk := M.nx } else M.nx Γ') M.xr
theorem vs_while {W : WX} {c : Expr} {body : List Stmt} {mc : MT} {mb : MS} (hp : PassesOwn (model X.prog X.w) X.A X.env X.xe) (hc : VT X W c mc) (hb : VSs X W np body mb) : VS X W np (.While c body [] pos) (sWhile mc mb) := by
  obtain ⟨t, pe, sn⟩ := hc.ex
  obtain ⟨tb, pb, sb⟩ := hb.ex
  refine ⟨_, ps_while hp pe pb, fun Z H σ Γ F M E hs rs m k => ?_⟩
  obtain ⟨I, ⟨n0, i0⟩, turn⟩ := m
  refine ⟨fun n σ' H' => ∃ Z' Γ' F', Same Z' H' ∧ Ext Z H F Z' H' F' ∧ Rsl X.K Z' H' Γ' σ' F' ∧ σ'.take np = σ.take np ∧ I n Γ', ⟨n0, Z, Γ, F, hs, .refl .., rs, rfl, i0⟩, ?_⟩
  rintro n σ1 H1 ⟨Z1, Γ1, F1, s1, e1, r1, p1, i1⟩
  have k1 := k.step e1 p1
  refine sn Z1 H1 σ1 Γ1 F1 _ M.xr _ s1 r1 (turn n Γ1 i1) (fun Z2 H2 Γ2 F2 b s2 e2 r2 q2 => ?_) k1.xok
  have k2 := k1.step e2 rfl
  cases b with
  | false => exact k2.nx Z2 H2 σ1 Γ2 F2 s2 (.refl ..) r2 rfl q2
  | true =>
    refine ⟨fun σ' H' => ∃ m', m' < n ∧ ∃ Z' Γ' F', Same Z' H' ∧ Ext Z H F Z' H' F' ∧ Rsl X.K Z' H' Γ' σ' F' ∧ σ'.take np = σ.take np ∧ I m' Γ', fun σ' H' h => h, ?_⟩
    refine sb Z2 H2 σ1 Γ2 F2 _ _ s2 r2 q2 ⟨?_, ?_, ?_, k2.rt, k2.xr⟩
    · rintro Z' H' σ' Γ' F' s' e' r' p' ⟨n', hn, i'⟩
      exact ⟨n', hn, Z', Γ', F', s', (e1.trans e2).trans e', r', p'.trans p1, i'⟩
    · exact k2.nx
    · rintro Z' H' σ' Γ' F' s' e' r' p' ⟨n', hn, i'⟩
      exact ⟨n', hn, Z', Γ', F', s', (e1.trans e2).trans e', r', p'.trans p1, i'⟩
end

/-! ### what is walked -/
structure VIt (K : PySem.W.Frag) (J : It) (Z : Hp) (its : List D) : Prop where
  go : ∀ Z' H', Same Z Z' → Same Z' H' → ∀ i, i < its.length → J.go i H'
  stop : ∀ Z' H', Same Z Z' → Same Z' H' → J.stop its.length H'
  yld : ∀ Z' H', Same Z Z' → Same Z' H' → ∀ i d x H'', its[i]? = some d → J.yld i H' x H'' → ∃ Z'', PStep Z' H' Z'' H'' ∧ Rz K Z'' d x
theorem VIt.mono {K : PySem.W.Frag} {J : It} {Z Z1 : Hp} {its : List D} (h : VIt K J Z its) (z : Same Z Z1) : VIt K J Z1 its :=
  ⟨fun Z' H' a b => h.go Z' H' (z.trans a) b, fun Z' H' a b => h.stop Z' H' (z.trans a) b, fun Z' H' a b => h.yld Z' H' (z.trans a) b⟩
theorem vit_list {K : PySem.W.Frag} {Z : Hp} {a : Addr} {ds : List D} {vs : List V} (h : SqL K Z a vs) (r : Rzs K Z ds vs) : VIt K (Itl K a) Z ds where
  go := fun Z' H' hz hs i hi => by
    obtain ⟨v, hv, _⟩ := r.get (List.getElem?_eq_getElem hi)
    exact ⟨vs, v, SqL.mono (rd_same (hz.trans hs)) h, hv⟩
  stop := fun Z' H' hz hs => ⟨vs, SqL.mono (rd_same (hz.trans hs)) h, by rw [r.length]; exact Nat.le_refl _⟩
  yld := fun Z' H' hz hs i d x H'' hd ⟨e, y⟩ => by
    subst e
    obtain ⟨v, hv, rv⟩ := r.get hd
    have := y vs (SqL.mono (rd_same (hz.trans hs)) h)
    rw [hv] at this
    cases this
    exact ⟨Z', .refl hs, rv.mono hz⟩
theorem vit_tup {K : PySem.W.Frag} {Z : Hp} {a : Addr} {ds : List D} {vs : List V} (h : SqT K Z a vs) (r : Rzs K Z ds vs) : VIt K (Itt K a) Z ds where
  go := fun Z' H' hz hs i hi => by
    obtain ⟨v, hv, _⟩ := r.get (List.getElem?_eq_getElem hi)
    exact ⟨vs, v, SqT.mono (rd_same (hz.trans hs)) h, hv⟩
  stop := fun Z' H' hz hs => ⟨vs, SqT.mono (rd_same (hz.trans hs)) h, by rw [r.length]; exact Nat.le_refl _⟩
  yld := fun Z' H' hz hs i d x H'' hd ⟨e, y⟩ => by
    subst e
    obtain ⟨v, hv, rv⟩ := r.get hd
    have := y vs (SqT.mono (rd_same (hz.trans hs)) h)
    rw [hv] at this
    cases this
    exact ⟨Z', .refl hs, rv.mono hz⟩
def rngD (lo : Int) (n : Nat) : List D := (List.range n).map fun i => D.int (lo + (i : Nat))
theorem vit_rng {K : PySem.W.Frag} {Z : Hp} (lo : Int) (n : Nat) : VIt K (Itr lo n) Z (rngD lo n) where
  go := fun Z' H' hz hs i hi => by simpa [rngD, Itr] using hi
  stop := fun Z' H' hz hs => by simp [rngD, Itr]
  yld := fun Z' H' hz hs i d x H'' hd ⟨e, y⟩ => by
    subst e; subst y
    have : d = .int (lo + (i : Nat)) := by
      unfold rngD at hd
      rw [List.getElem?_map] at hd
      cases q : (List.range n)[i]? with
      | none => rw [q] at hd; cases hd
      | some j =>
        rw [q] at hd
        have := List.getElem?_eq_some_iff.mp q
        obtain ⟨hj, e⟩ := this
        rw [List.getElem_range] at e
        subst e
        simpa using hd.symm
    subst this
    exact ⟨Z', .refl hs, .int _⟩
theorem pstep_tup {K : PySem.W.Frag} {Z H : Hp} (hs : Same Z H) {p : Addr} (hp : H p = none) {ds : List D} {vs : List V} (r : Rzs K Z ds vs) : ∃ Z'', PStep Z H Z'' (upd H p (.tup vs)) ∧ Rz K Z'' (.tup ds) (.ref p) :=
  ⟨_, .newz hs hp, .tup (.inl (.inl upd_same)) (r.mono (same_upd (hs.free hp)))⟩
def enumD : Nat → List D → List D
  | _, [] => []
  | i, d :: ds => .tup [.int (i : Nat), d] :: enumD (i + 1) ds
theorem enumD_length : ∀ (i : Nat) (ds : List D), (enumD i ds).length = ds.length
  | _, [] => rfl
  | i, d :: ds => by simp [enumD, enumD_length (i + 1) ds]
theorem enumD_get : ∀ (k : Nat) (ds : List D) (i : Nat) (e : D), (enumD k ds)[i]? = some e → ∃ d, ds[i]? = some d ∧ e = .tup [.int ((k + i : Nat)), d]
  | _, [], i, e, h => by simp [enumD] at h
  | k, d :: ds, 0, e, h => by simp [enumD] at h; exact ⟨d, rfl, by simpa using h.symm⟩
  | k, d :: ds, i + 1, e, h => by
    have h' : (enumD (k + 1) ds)[i]? = some e := by simpa [enumD] using h
    obtain ⟨d', h1, h2⟩ := enumD_get (k + 1) ds i e h'
    refine ⟨d', by simpa using h1, ?_⟩
    rw [h2]
    have : k + 1 + i = k + (i + 1) := by omega
    rw [this]
theorem vit_enum {K : PySem.W.Frag} {Z : Hp} {a : Addr} {ds : List D} {vs : List V} (h : SqL K Z a vs) (r : Rzs K Z ds vs) : VIt K (Ite K a) Z (enumD 0 ds) where
  go := fun Z' H' hz hs i hi => by
    rw [enumD_length] at hi
    obtain ⟨v, hv, _⟩ := r.get (List.getElem?_eq_getElem hi)
    exact ⟨vs, v, SqL.mono (rd_same (hz.trans hs)) h, hv⟩
  stop := fun Z' H' hz hs => ⟨vs, SqL.mono (rd_same (hz.trans hs)) h, by rw [enumD_length, r.length]; exact Nat.le_refl _⟩
  yld := fun Z' H' hz hs i e x H'' hd ⟨p, y, e1, hp, e2, hy⟩ => by
    subst e1; subst e2
    obtain ⟨d, hd1, e3⟩ := enumD_get 0 ds i e hd
    subst e3
    obtain ⟨v, hv, rv⟩ := r.get hd1
    have := hy vs (SqL.mono (rd_same (hz.trans hs)) h)
    rw [hv] at this
    cases this
    rw [Nat.zero_add]
    exact pstep_tup hs hp (.cons (.int _) (.cons (rv.mono hz) .nil))
def zipD : List D → List D → List D
  | d :: ds, e :: es => .tup [d, e] :: zipD ds es
  | _, _ => []
theorem zipD_length : ∀ (ds es : List D), (zipD ds es).length = min ds.length es.length
  | [], _ => by simp [zipD]
  | d :: ds, [] => by simp [zipD]
  | d :: ds, e :: es => by simp only [zipD, List.length_cons, zipD_length ds es]; omega
theorem zipD_get : ∀ (ds es : List D) (i : Nat) (x : D), (zipD ds es)[i]? = some x → ∃ d e, ds[i]? = some d ∧ es[i]? = some e ∧ x = .tup [d, e]
  | [], _, i, x, h => by simp [zipD] at h
  | d :: ds, [], i, x, h => by simp [zipD] at h
  | d :: ds, e :: es, 0, x, h => by simp [zipD] at h; exact ⟨d, e, rfl, rfl, h.symm⟩
  | d :: ds, e :: es, i + 1, x, h => by
    obtain ⟨a, b, h1, h2, h3⟩ := zipD_get ds es i x (by simpa [zipD] using h)
    exact ⟨a, b, by simpa using h1, by simpa using h2, h3⟩
theorem vit_zip {K : PySem.W.Frag} {Z : Hp} {a b : Addr} {ds es : List D} {vs ws : List V} (h : SqL K Z a vs) (r : Rzs K Z ds vs) (h' : SqL K Z b ws) (r' : Rzs K Z es ws) : VIt K (Itz K a b) Z (zipD ds es) where
  go := fun Z' H' hz hs i hi => by
    rw [zipD_length] at hi
    have i1 : i < ds.length := by omega
    have i2 : i < es.length := by omega
    obtain ⟨v, hv, _⟩ := r.get (List.getElem?_eq_getElem i1)
    obtain ⟨w, hw, _⟩ := r'.get (List.getElem?_eq_getElem i2)
    exact ⟨vs, ws, v, w, SqL.mono (rd_same (hz.trans hs)) h, SqL.mono (rd_same (hz.trans hs)) h', hv, hw⟩
  stop := fun Z' H' hz hs => ⟨vs, ws, SqL.mono (rd_same (hz.trans hs)) h, SqL.mono (rd_same (hz.trans hs)) h', by rw [zipD_length, r.length, r'.length]; omega⟩
  yld := fun Z' H' hz hs i e x H'' hd ⟨p, y, y', e1, hp, e2, hy, hy'⟩ => by
    subst e1; subst e2
    obtain ⟨d, d', hd1, hd2, e3⟩ := zipD_get ds es i e hd
    subst e3
    obtain ⟨v, hv, rv⟩ := r.get hd1
    obtain ⟨w, hw, rw'⟩ := r'.get hd2
    have q := hy vs (SqL.mono (rd_same (hz.trans hs)) h)
    rw [hv] at q
    cases q
    have q := hy' ws (SqL.mono (rd_same (hz.trans hs)) h')
    rw [hw] at q
    cases q
    exact pstep_tup hs hp (.cons (rv.mono hz) (.cons (rw'.mono hz) .nil))
theorem vit_zipT {K : PySem.W.Frag} {Z : Hp} {a b : Addr} {ds es : List D} {vs ws : List V} (h : SqT K Z a vs) (r : Rzs K Z ds vs) (h' : SqT K Z b ws) (r' : Rzs K Z es ws) : VIt K (RZ.ItzT K a b) Z (zipD ds es) where
  go := fun Z' H' hz hs i hi => by
    rw [zipD_length] at hi
    have i1 : i < ds.length := by omega
    have i2 : i < es.length := by omega
    obtain ⟨v, hv, _⟩ := r.get (List.getElem?_eq_getElem i1)
    obtain ⟨w, hw, _⟩ := r'.get (List.getElem?_eq_getElem i2)
    exact ⟨vs, ws, v, w, SqT.mono (rd_same (hz.trans hs)) h, SqT.mono (rd_same (hz.trans hs)) h', hv, hw⟩
  stop := fun Z' H' hz hs => ⟨vs, ws, SqT.mono (rd_same (hz.trans hs)) h, SqT.mono (rd_same (hz.trans hs)) h', by rw [zipD_length, r.length, r'.length]; omega⟩
  yld := fun Z' H' hz hs i e x H'' hd ⟨p, y, y', e1, hp, e2, hy, hy'⟩ => by
    subst e1; subst e2
    obtain ⟨d, d', hd1, hd2, e3⟩ := zipD_get ds es i e hd
    subst e3
    obtain ⟨v, hv, rv⟩ := r.get hd1
    obtain ⟨w, hw, rw'⟩ := r'.get hd2
    have q := hy vs (SqT.mono (rd_same (hz.trans hs)) h)
    rw [hv] at q
    cases q
    have q := hy' ws (SqT.mono (rd_same (hz.trans hs)) h')
    rw [hw] at q
    cases q
    exact pstep_tup hs hp (.cons (rv.mono hz) (.cons (rw'.mono hz) .nil))
def chD (c : Nat) : D := .str ⟨#[c]⟩
def strD (s : Str) : List D := s.cps.toList.map chD
theorem vit_str {K : PySem.W.Frag} {Z : Hp} (s : Str) (h : PyData.strOk s = true) : VIt K (Its s) Z (strD s) where
  go := fun Z' H' hz hs i hi => by simpa [strD, Its] using hi
  stop := fun Z' H' hz hs => by simp [strD, Its]
  yld := fun Z' H' hz hs i d x H'' hd ⟨e, c, hc, y⟩ => by
    subst e; subst y
    unfold strD at hd
    rw [List.getElem?_map] at hd
    have hc' : s.cps.toList[i]? = some c := by simpa using hc
    rw [hc'] at hd
    cases hd
    refine ⟨Z', .refl hs, .str _ ?_⟩
    exact strOk_iff.mpr fun b hb => by
      have e : b = c := by simpa using hb
      rw [e]
      exact strOk_iff.mp h c (List.mem_of_getElem? hc')

abbrev MI := Sl → (List D → Sl → Prop) → XRl → Prop
def SndI (K : PySem.W.Frag) (W : WX) (wi : TI) (m : MI) : Prop :=
  ∀ Z H σ Γ F R XR Q, Same Z H → Rsl K Z H Γ σ F → m Γ R XR →
    (∀ Z' H' Γ' F' J its, Same Z' H' → Ext Z H F Z' H' F' → Rsl K Z' H' Γ' σ F' → VIt K J Z' its → R its Γ' → Q J H') → XOk K Z H F σ XR W → wi σ H Q
structure VI (X : Cx) (W : WX) (tg iter : Expr) (m : MI) : Prop where
  ex : ∃ wi, PI X tg iter wi ∧ SndI X.K W wi m
section
variable {X : Cx} {W : WX} {tg : Expr}
def D.seqL (d : D) (k : List D → Prop) : Prop := match d with
  | .lst ds => k ds
  | .scr ns => k (ns.map D.int)
  | _ => False
def D.seqT (d : D) (k : List D → Prop) : Prop := match d with
  | .tup ds => k ds
  | _ => False
theorem seqL_at {K : PySem.W.Frag} {Z : Hp} {d : D} {v : V} (r : Rz K Z d v) {k : List D → Prop} (h : d.seqL k) : ∃ a vs ds, v = .ref a ∧ SqL K Z a vs ∧ Rzs K Z ds vs ∧ k ds := by
  cases r with
  | lst h1 h2 => exact ⟨_, _, _, rfl, .inl (.inl h1), h2, h⟩
  | scr h1 => exact ⟨_, _, _, rfl, h1, .ofInts _, h⟩
  | _ => exact h.elim
theorem seqT_at {K : PySem.W.Frag} {Z : Hp} {d : D} {v : V} (r : Rz K Z d v) {k : List D → Prop} (h : d.seqT k) : ∃ a vs ds, v = .ref a ∧ SqT K Z a vs ∧ Rzs K Z ds vs ∧ k ds := by
  cases r with
  | tup h1 h2 => exact ⟨_, _, _, rfl, h1, h2, h⟩
  | _ => exact h.elim
/-- an answer frozen at once -/
theorem snd_frz {K : PySem.W.Frag} {t : TE} {m : ME} (sn : Snd K W t m) {Z H : Hp} {σ : St} {Γ : Sl} {F : List Addr} {R : D → Sl → Prop} {XR : XRl} {Q : VK} (hs : Same Z H) (rs : Rsl K Z H Γ σ F) (h : m Γ (fun t Γ' => R t.toD Γ') XR)
    (k : ∀ Z' H' Γ' F' d v, Same Z' H' → Ext Z H F Z' H' F' → Rsl K Z' H' Γ' σ F' → Rz K Z' d v → R d Γ' → Q v H') (x : XOk K Z H F σ XR W) : t σ H Q :=
  sn Z H σ Γ F _ XR _ hs rs h (fun Z' H' Γ' F' r v G s1 e1 r1 p1 n1 q => by
    have h0 : ∀ x ∈ G, Z' x = none := fun x hx => (p1.foot x hx).1
    exact k _ H' Γ' F' r.toD v (frzH_below s1) (ext_frz e1 h0) (frz_slots r1 h0 n1) (p1.freeze (frzH_same h0) frzH_at) q) x
theorem sndA_frz {K : PySem.W.Frag} {n : Nat} {t : TA} {m : MA} (sn : SndA K n W t m) {Z H : Hp} {σ : St} {Γ : Sl} {F : List Addr} {R : List D → Sl → Prop} {XR : XRl} {Q : List V → Hp → Prop} (hs : Same Z H) (rs : Rsl K Z H Γ σ F) (h : m Γ (fun t Γ' => R (t.map T.toD) Γ') XR)
    (k : ∀ Z' H' Γ' F' d v, Same Z' H' → Ext Z H F Z' H' F' → Rsl K Z' H' Γ' σ F' → Rzs K Z' d v → R d Γ' → Q v H') (x : XOk K Z H F σ XR W) : t σ H Q :=
  sn Z H σ Γ F _ XR _ hs rs h (fun Z' H' Γ' F' r v G s1 e1 r1 p1 n1 l1 q => by
    obtain ⟨f1, f2, f3, f4⟩ := frz_args s1 r1 p1 n1
    exact k _ H' Γ' F' _ v f2 (ext_frz e1 fun x hx => (p1.foot x hx).1) f3 f4 q) x
def iL (m : ME) : MI := fun Γ R XR => m Γ (fun t Γ' => t.toD.seqL fun ds => R ds Γ') XR
def iT (m : ME) : MI := fun Γ R XR => m Γ (fun t Γ' => t.toD.seqT fun ds => R ds Γ') XR
def iS (m : ME) : MI := fun Γ R XR => m Γ (fun t Γ' => ∃ s, t = .frz (.str s) ∧ R (strD s) Γ') XR
theorem vi_list {e : Expr} {m : ME} (h : VE X W e m) : VI X W tg e (iL m) := by
  obtain ⟨t, pe, sn⟩ := h.ex
  refine ⟨_, pi_list pe, fun Z H σ Γ F R XR Q hs rs m k x => ?_⟩
  refine snd_frz sn (R := fun d Γ' => d.seqL fun ds => R ds Γ') hs rs m (fun Z' H' Γ' F' d v s1 e1 r1 rz q => ?_) x
  obtain ⟨a, vs, ds, e, h1, h2, q⟩ := seqL_at rz q
  exact ⟨a, e, ⟨vs, SqL.mono (rd_same s1) h1⟩, k Z' H' Γ' F' _ ds s1 e1 r1 (vit_list h1 h2) q⟩
theorem vi_tup {e : Expr} {m : ME} (h : VE X W e m) : VI X W tg e (iT m) := by
  obtain ⟨t, pe, sn⟩ := h.ex
  refine ⟨_, pi_tup pe, fun Z H σ Γ F R XR Q hs rs m k x => ?_⟩
  refine snd_frz sn (R := fun d Γ' => d.seqT fun ds => R ds Γ') hs rs m (fun Z' H' Γ' F' d v s1 e1 r1 rz q => ?_) x
  obtain ⟨a, vs, ds, e, h1, h2, q⟩ := seqT_at rz q
  exact ⟨a, e, ⟨vs, SqT.mono (rd_same s1) h1⟩, k Z' H' Γ' F' _ ds s1 e1 r1 (vit_tup h1 h2) q⟩
theorem vi_str {e : Expr} {m : ME} (h : VE X W e m) : VI X W tg e (iS m) := by
  obtain ⟨t, pe, sn⟩ := h.ex
  refine ⟨_, pi_str pe, fun Z H σ Γ F R XR Q hs rs m k x => ?_⟩
  refine sn Z H σ Γ F _ XR _ hs rs m (fun Z' H' Γ' F' r v G s1 e1 r1 p1 n1 ⟨s, e, q⟩ => ?_) x
  subst e
  cases p1 with
  | frz rz =>
    cases rz with
    | str _ ok => exact ⟨s, rfl, k Z' H' Γ' F' _ _ s1 (e1.sub fun _ h => List.mem_append_left _ h) r1 (vit_str s ok) q⟩
def iR1 (g : MA) : MI := fun Γ R XR => g Γ (fun ts Γ' => ∃ j : Int, ts.map T.toD = [.int j] ∧ -(2 ^ 62) ≤ j ∧ j < 2 ^ 62 ∧ R (rngD 0 j.toNat) Γ') XR
def iR2 (g : MA) : MI := fun Γ R XR => g Γ (fun ts Γ' => ∃ i j : Int, ts.map T.toD = [.int i, .int j] ∧ (-(2 ^ 62) ≤ i ∧ i < 2 ^ 62 ∧ -(2 ^ 62) ≤ j ∧ j < 2 ^ 62) ∧ R (rngD i (j - i).toNat) Γ') XR
theorem vi_range1 {a : Expr} {g : MA} {p pos : Pos} (hg : Gl X "range") (hm : X.mg "range" = none) (ha : VA X W [a] g) (hs : starEach [a] X.env = [(false, eval a X.env)] := by rfl) : VI X W tg (.Call (.Name "range" p) [a] [] pos) (iR1 g) := by
  obtain ⟨t, pe, sn⟩ := ha.ex
  refine ⟨_, pi_range1 hg hm pe hs, fun Z H σ Γ F R XR Q hs rs m k x => ?_⟩
  refine sndA_frz sn (R := fun ds Γ' => ∃ j : Int, ds = [.int j] ∧ -(2 ^ 62) ≤ j ∧ j < 2 ^ 62 ∧ R (rngD 0 j.toNat) Γ') hs rs ?_ (fun Z' H' Γ' F' d v s1 e1 r1 rz q => ?_) x
  · exact m
  · obtain ⟨j, e, h1, h2, q⟩ := q
    subst e
    cases rz with
    | cons r0 rr =>
      cases rr
      cases r0
      exact ⟨j, rfl, h1, h2, k Z' H' Γ' F' _ _ s1 e1 r1 (vit_rng _ _) q⟩
theorem vi_range2 {a b : Expr} {g : MA} {p pos : Pos} (hg : Gl X "range") (hm : X.mg "range" = none) (ha : VA X W [a, b] g) (hs : starEach [a, b] X.env = [(false, eval a X.env), (false, eval b X.env)] := by rfl) (hs2 : starEach [b] X.env = [(false, eval b X.env)] := by rfl) : VI X W tg (.Call (.Name "range" p) [a, b] [] pos) (iR2 g) := by
  obtain ⟨t, pe, sn⟩ := ha.ex
  refine ⟨_, pi_range2 hg hm pe hs hs2, fun Z H σ Γ F R XR Q hs rs m k x => ?_⟩
  refine sndA_frz sn (R := fun ds Γ' => ∃ i j : Int, ds = [.int i, .int j] ∧ (-(2 ^ 62) ≤ i ∧ i < 2 ^ 62 ∧ -(2 ^ 62) ≤ j ∧ j < 2 ^ 62) ∧ R (rngD i (j - i).toNat) Γ') hs rs ?_ (fun Z' H' Γ' F' d v s1 e1 r1 rz q => ?_) x
  · exact m
  · obtain ⟨i, j, e, h, q⟩ := q
    subst e
    cases rz with
    | cons r0 rr =>
      cases rr with
      | cons r2 rr =>
        cases rr
        cases r0
        cases r2
        exact ⟨i, j, rfl, h, k Z' H' Γ' F' _ _ s1 e1 r1 (vit_rng _ _) q⟩
def iEn (g : MA) : MI := fun Γ R XR => g Γ (fun ts Γ' => ∃ d, ts.map T.toD = [d] ∧ d.seqL fun ds => R (enumD 0 ds) Γ') XR
theorem vi_enum {e : Expr} {g : MA} {p pos tpos : Pos} {elts : List Expr} {kk : Nat} (hg : Gl X "enumerate") (hm : X.mg "enumerate" = none) (ha : VA X W [e] g) (hs : starEach [e] X.env = [(false, eval e X.env)] := by rfl) : VI X W (.Tuple elts kk tpos) (.Call (.Name "enumerate" p) [e] [] pos) (iEn g) := by
  obtain ⟨t, pe, sn⟩ := ha.ex
  refine ⟨_, pi_enum hg hm pe hs, fun Z H σ Γ F R XR Q hs rs m k x => ?_⟩
  refine sndA_frz sn (R := fun ds Γ' => ∃ d, ds = [d] ∧ d.seqL fun ds => R (enumD 0 ds) Γ') hs rs ?_ (fun Z' H' Γ' F' d v s1 e1 r1 rz q => ?_) x
  · exact m
  · obtain ⟨d, e, q⟩ := q
    subst e
    cases rz with
    | cons r0 rr =>
      cases rr
      obtain ⟨a, vs, ds, e, h1, h2, q⟩ := seqL_at r0 q
      subst e
      exact ⟨a, vs, rfl, SqL.mono (rd_same s1) h1, k Z' H' Γ' F' _ _ s1 e1 r1 (vit_enum h1 h2) q⟩
def iZp (g : MA) : MI := fun Γ R XR => g Γ (fun ts Γ' => ∃ d d', ts.map T.toD = [d, d'] ∧ ((d.seqL fun ds => d'.seqL fun es => R (zipD ds es) Γ') ∨ (d.seqT fun ds => d'.seqT fun es => R (zipD ds es) Γ'))) XR
theorem vi_zip {e e2 : Expr} {g : MA} {p pos tpos : Pos} {elts : List Expr} {kk : Nat} (hg : Gl X "zip") (hm : X.mg "zip" = none) (ha : VA X W [e, e2] g)
    (hs : starEach [e, e2] X.env = (false, eval e X.env) :: starEach [e2] X.env := by rfl) (hpl : (backTo pos (starEach [e2] X.env)).any (·.1) = false := by rfl) : VI X W (.Tuple elts kk tpos) (.Call (.Name "zip" p) [e, e2] [] pos) (iZp g) := by
  obtain ⟨t, pe, sn⟩ := ha.ex
  refine ⟨_, RZ.pi_zipA hg hm pe hs hpl, fun Z H σ Γ F R XR Q hs rs m k x => ?_⟩
  refine sndA_frz sn (R := fun ts Γ' => ∃ d d', ts = [d, d'] ∧ ((d.seqL fun ds => d'.seqL fun es => R (zipD ds es) Γ') ∨ (d.seqT fun ds => d'.seqT fun es => R (zipD ds es) Γ'))) hs rs ?_ (fun Z' H' Γ' F' d v s1 e1 r1 rz q => ?_) x
  · exact m
  · obtain ⟨d, d', e, q⟩ := q
    subst e
    cases rz with
    | cons r0 rr =>
      cases rr with
      | cons r2 rr =>
        cases rr
        rcases q with q | q
        · obtain ⟨a, vs, ds, e, h1, h2, q⟩ := seqL_at r0 q
          obtain ⟨b, ws, es, e', h3, h4, q⟩ := seqL_at r2 q
          subst e; subst e'
          exact ⟨a, b, vs, ws, rfl, .inl ⟨SqL.mono (rd_same s1) h1, SqL.mono (rd_same s1) h3, k Z' H' Γ' F' _ _ s1 e1 r1 (vit_zip h1 h2 h3 h4) q⟩⟩
        · obtain ⟨a, vs, ds, e, h1, h2, q⟩ := seqT_at r0 q
          obtain ⟨b, ws, es, e', h3, h4, q⟩ := seqT_at r2 q
          subst e; subst e'
          exact ⟨a, b, vs, ws, rfl, .inr ⟨SqT.mono (rd_same s1) h1, SqT.mono (rd_same s1) h3, k Z' H' Γ' F' _ _ s1 e1 r1 (vit_zipT h1 h2 h3 h4) q⟩⟩

/-! ### for -/
def forL (g : MG1) (b : MS) (M : VEnds) : List D → Sl → Prop
  | [], Γ => M.nx Γ
  | d :: ds, Γ => g d Γ fun Γ' => b Γ' { M with nx := forL g b M ds, ct := forL g b M ds, bk := M.nx }
def sFor (mi : MI) (g : MG1) (b : MS) : MS := fun Γ M => mi Γ (fun ds Γ' => forL g b M ds Γ') M.xr
theorem vs_for {np : Nat} {iter : Expr} {body : List Stmt} {mi : MI} {g : MG1} {mb : MS} {pos : Pos} (hp : PassesOwn (model X.prog X.w) X.A X.env X.xe) (hc : X.calm = true) (hi : VI X W tg iter mi) (hg : VTg X np tg g) (hb : VSs X W np body mb)
    (hf : ∀ x, foldedSetIterable iter X.env x = pure x := by intro _; rfl) : VS X W np (.For tg iter body [] pos) (sFor mi g mb) := by
  obtain ⟨wi, pi, si⟩ := hi.ex
  obtain ⟨tg', pg, sg⟩ := hg.ex
  obtain ⟨tb, pb, sb⟩ := hb.ex
  refine ⟨_, ps_for hp hc pi pg pb hf, fun Z H σ Γ F M E hs rs m k => ?_⟩
  refine si Z H σ Γ F _ M.xr _ hs rs m (fun Z0 H0 Γ0 F0 J its s0 e0 r0 vit q0 => ?_) k.xok
  refine ⟨fun i n σ' H' => ∃ Z' Γ' F', Same Z0 Z' ∧ Same Z' H' ∧ Ext Z H F Z' H' F' ∧ Rsl X.K Z' H' Γ' σ' F' ∧ σ'.take np = σ.take np ∧ i ≤ its.length ∧ n = its.length - i ∧ forL g mb M (its.drop i) Γ', ⟨its.length, Z0, Γ0, F0, .refl _, s0, e0, r0, rfl, Nat.zero_le _, by simp, by simpa using q0⟩, ?_⟩
  rintro i n σ1 H1 ⟨Z1, Γ1, F1, z1, s1, e1, r1, p1, hi, hn, q1⟩
  have k1 := k.step e1 p1
  by_cases hlt : i < its.length
  · have ed : its.drop i = its[i] :: its.drop (i + 1) := List.drop_eq_getElem_cons hlt
    rw [ed] at q1
    refine .inr ⟨vit.go Z1 H1 z1 s1 i hlt, fun σ' H' => ∃ Z' Γ' F', Same Z0 Z' ∧ Same Z' H' ∧ Ext Z H F Z' H' F' ∧ Rsl X.K Z' H' Γ' σ' F' ∧ σ'.take np = σ.take np ∧ forL g mb M (its.drop (i + 1)) Γ', ?_, ?_⟩
    · rintro σ' H' ⟨Z', Γ', F', z', s', e', r', p', q'⟩
      exact ⟨its.length - (i + 1), by omega, Z', Γ', F', z', s', e', r', p', hlt, rfl, q'⟩
    · intro x H2 y
      obtain ⟨Z2, st, rz⟩ := vit.yld Z1 H1 z1 s1 i _ x H2 (List.getElem?_eq_getElem hlt) y
      have e2 : Ext Z1 H1 F1 Z2 H2 F1 := by simpa using st.ext (F := F1) (G := []) (fun x hx => absurd hx (by simp))
      have q1' : g its[i] Γ1 fun Γ' => mb Γ' { M with nx := forL g mb M (its.drop (i + 1)), ct := forL g mb M (its.drop (i + 1)), bk := M.nx } := q1
      refine sg Z2 H2 σ1 Γ1 F1 _ x _ _ st.zh (st.slots r1) rz q1' fun Z3 H3 σ3 Γ3 F3 s3 e3 r3 p3 q3 => ?_
      have k3 := k1.step (e2.trans e3) p3
      have ex : Ext Z H F Z3 H3 F3 := e1.trans (e2.trans e3)
      refine sb Z3 H3 σ3 Γ3 F3 _ _ s3 r3 q3 ⟨?_, k3.nx, ?_, k3.rt, k3.xr⟩
      · intro Z' H' σ' Γ' F' s' e' r' p' q'
        exact ⟨Z', Γ', F', z1.trans (st.z.trans (e3.z.trans e'.z)), s', ex.trans e', r', (p'.trans p3).trans p1, q'⟩
      · intro Z' H' σ' Γ' F' s' e' r' p' q'
        exact ⟨Z', Γ', F', z1.trans (st.z.trans (e3.z.trans e'.z)), s', ex.trans e', r', (p'.trans p3).trans p1, q'⟩
  · have ei : i = its.length := by omega
    subst ei
    rw [List.drop_length] at q1
    exact .inl ⟨vit.stop Z1 H1 z1 s1, k1.nx Z1 H1 σ1 Γ1 F1 s1 (.refl ..) r1 rfl q1⟩
end
end VL
set_option Elab.async false
set_option linter.all false
set_option autoImplicit false
set_option maxRecDepth 100000
set_option maxHeartbeats 2000000
/-! VL11: list comprehensions. -/
namespace VL
open PySem PySem.Spec L2
open PyProof.Rows hiding St

/-! ### one reading for all contexts -/
def canE (K : PySem.W.Frag) (W : WX) (m : ME) : TE := fun σ H Q => ∃ Z Γ F R XR, Same Z H ∧ Rsl K Z H Γ σ F ∧ m Γ R XR ∧ KOk K Z H F σ R Q ∧ XOk K Z H F σ XR W
def canT (K : PySem.W.Frag) (W : WX) (m : MT) : TT := fun σ H Q => ∃ Z Γ F R XR, Same Z H ∧ Rsl K Z H Γ σ F ∧ m Γ R XR ∧ KOkT K Z H F σ R Q ∧ XOk K Z H F σ XR W
theorem VE.can {X : Cx} {W : WX} {e : Expr} {m : ME} (h : VE X W e m) : PE X e (canE X.K W m) := by
  obtain ⟨t, pe, sn⟩ := h.ex
  exact ⟨fun pins s σ H Q I ⟨Z, Γ, F, R, XR, hs, rs, hm, k, x⟩ => pe.run pins s σ H Q I (sn Z H σ Γ F R XR Q hs rs hm k x)⟩
theorem canE_snd {K : PySem.W.Frag} {W : WX} {m : ME} : Snd K W (canE K W m) m := fun Z H σ Γ F R XR Q hs rs hm k x => ⟨Z, Γ, F, R, XR, hs, rs, hm, k, x⟩
theorem VT.can {X : Cx} {W : WX} {e : Expr} {m : MT} (h : VT X W e m) : PT X e (canT X.K W m) := by
  obtain ⟨t, pe, sn⟩ := h.ex
  exact ⟨fun pins s σ H Q I ⟨Z, Γ, F, R, XR, hs, rs, hm, k, x⟩ => pe.run pins s σ H Q I (sn Z H σ Γ F R XR Q hs rs hm k x)⟩
theorem canT_snd {K : PySem.W.Frag} {W : WX} {m : MT} : SndT K W (canT K W m) m := fun Z H σ Γ F R XR Q hs rs hm k x => ⟨Z, Γ, F, R, XR, hs, rs, hm, k, x⟩
abbrev noW : WX := fun _ _ _ _ => False
abbrev noX : XRl := fun _ _ _ => False
structure VTs (X : Cx) (ifs : List Expr) (m : MT) : Prop where
  run : PTs X ifs (canT X.K noW m)
def mYes : MT := fun Γ R _ => R true Γ
theorem vts_nil {X : Cx} : VTs X [] mYes := ⟨⟨fun pins s σ H Q I ⟨Z, Γ, F, R, XR, hs, rs, hm, k, x⟩ => pts_nil.run pins s σ H Q I (k Z H Γ F true hs (.refl ..) rs hm)⟩⟩
theorem vts_one {X : Cx} {c : Expr} {m : MT} (h : VT X noW c m) : VTs X [c] m := ⟨pts_one h.can⟩
/-! ### targets of a block -/
def SndTc (K : PySem.W.Frag) (vs : List Nat) (t : TG) (g : MG1) : Prop :=
  ∀ Z H σ Γ F d v (R : Sl → Prop) (Q : St → Hp → Prop), Same Z H → Rsl K Z H Γ σ F → Rz K Z d v → g d Γ R →
    (∀ σ' Γ' F', Rsl K Z H Γ' σ' F' → (∀ x ∈ F', x ∈ F) → wipe σ' vs = wipe σ vs → R Γ' → Q σ' H) → t v σ H Q
def SndTcs (K : PySem.W.Frag) (vs : List Nat) (t : TGs) (g : List D → Sl → (Sl → Prop) → Prop) : Prop :=
  ∀ Z H σ Γ F d v (R : Sl → Prop) (Q : St → Hp → Prop), Same Z H → Rsl K Z H Γ σ F → Rzs K Z d v → g d Γ R →
    (∀ σ' Γ' F', Rsl K Z H Γ' σ' F' → (∀ x ∈ F', x ∈ F) → wipe σ' vs = wipe σ vs → R Γ' → Q σ' H) → t v σ H Q
def canG (K : PySem.W.Frag) (vs : List Nat) (g : MG1) : TG := fun v σ H Q => ∃ Z Γ F d R, Same Z H ∧ Rsl K Z H Γ σ F ∧ Rz K Z d v ∧ g d Γ R ∧ ∀ σ' Γ' F', Rsl K Z H Γ' σ' F' → (∀ x ∈ F', x ∈ F) → wipe σ' vs = wipe σ vs → R Γ' → Q σ' H
structure VTc (X : Cx) (vs : List Nat) (tg : Expr) (g : MG1) : Prop where
  ex : ∃ t, PG X tg t ∧ SndTc X.K vs t g
structure VTcs (X : Cx) (vs : List Nat) (tg : List Expr) (g : List D → Sl → (Sl → Prop) → Prop) : Prop where
  ex : ∃ t, PGs X tg t ∧ SndTcs X.K vs t g
theorem VTc.can {X : Cx} {vs : List Nat} {tg : Expr} {g : MG1} (h : VTc X vs tg g) : PG X tg (canG X.K vs g) := by
  obtain ⟨t, pg, sn⟩ := h.ex
  exact ⟨fun pins s σ H v u Q I r ⟨Z, Γ, F, d, R, hs, rs, rz, hm, k⟩ => pg.run pins s σ H v u Q I r (sn Z H σ Γ F d v R Q hs rs rz hm k)⟩
theorem wipe_set {σ : St} {i : Nat} {x : Option V} : ∀ {vs : List Nat}, i ∈ vs → wipe (σ.set i x) vs = wipe σ vs
  | v :: vs, h => by
    unfold wipe
    by_cases e : i ∈ vs
    · rw [wipe_set e]
    · have e' : i = v := by simpa [e] using h
      subst e'
      have key : ∀ vs : List Nat, i ∉ vs → wipe (σ.set i x) vs = (wipe σ vs).set i x := by
        intro vs
        induction vs with
        | nil => intro _; rfl
        | cons w ws ih =>
          intro hn
          have hw : w ≠ i := fun z => hn (by simp [z])
          unfold wipe
          rw [ih fun z => hn (List.mem_cons_of_mem _ z), List.set_comm _ _ hw]
      rw [key vs e, List.set_set]
section
variable {X : Cx} {vs : List Nat} {pos : Pos}
theorem vtc_name {i : Nat} {x : Str} (hN : X.N.Nodup) (hp : i ∈ vs := by decide) (hi : X.N[i]? = some x := by rfl) (hx : Loc X.env.scope x := by first | exact Or.inl rfl | exact Or.inr rfl) (hf : X.fn x = true ∨ X.env.scope.names.lookup x = some .local := by first | exact .inl rfl | exact .inr rfl) : VTc X vs (.Name x pos) (tN i) :=
  ⟨_, pg_name hN hi hx hf, fun Z H σ Γ F d v R Q hs rs rz m k => by
    obtain ⟨F', rs', sub⟩ := rs.put m.1 (.frz rz) (fun x hx => absurd hx (by simp))
    exact k _ _ F' rs' (fun x hx => (sub x hx).elim (fun h => h) fun h => absurd h (by simp)) (wipe_set hp) m.2⟩
theorem vtcs_nil : VTcs X vs [] tNil := ⟨_, pgs_nil, fun Z H σ Γ F d v R Q hs rs rz m k => by
  obtain ⟨e, m⟩ := m
  subst e
  cases rz
  exact ⟨rfl, k _ _ F rs (fun x h => h) rfl m⟩⟩
theorem vtcs_cons {e : Expr} {es : List Expr} {g : MG1} {gs : List D → Sl → (Sl → Prop) → Prop} (h : VTc X vs e g) (hh : VTcs X vs es gs)
    (hs : (assignEach (e :: es) X.env).map (·.2) = assign e X.env :: (assignEach es X.env).map (·.2) := by rfl) : VTcs X vs (e :: es) (tCons g gs) := by
  obtain ⟨t, pg, sn⟩ := h.ex
  obtain ⟨t', pg', sn'⟩ := hh.ex
  refine ⟨_, pgs_cons pg pg' hs, fun Z H σ Γ F d v R Q hs rs rz m k => ?_⟩
  obtain ⟨d0, r, e, m⟩ := m
  subst e
  cases rz with
  | cons r0 rr =>
    refine ⟨_, _, rfl, sn Z H σ Γ F d0 _ _ _ hs rs r0 m fun σ1 Γ1 F1 rs1 sub1 p1 q1 => ?_⟩
    exact sn' Z H σ1 Γ1 F1 r _ R _ hs rs1 rr q1 fun σ2 Γ2 F2 rs2 sub2 p2 q2 => k _ _ F2 rs2 (fun x h => sub1 x (sub2 x h)) (p2.trans p1) q2
theorem vtc_tup {es : List Expr} {kk : Nat} {gs : List D → Sl → (Sl → Prop) → Prop} (hc : X.calm = true) (h : VTcs X vs es gs)
    (hn : (assignEach es X.env).length = es.length := by rfl) (hst : (assignEach es X.env).findIdx? (·.1) = none := by rfl) : VTc X vs (.Tuple es kk pos) (tTup es.length gs) := by
  obtain ⟨t, pg, sn⟩ := h.ex
  refine ⟨_, pg_tup hc pg hn hst, fun Z H σ Γ F d v R Q hs rs rz m k => ?_⟩
  obtain ⟨ds, e, hl, m⟩ := m
  subst e
  cases rz with
  | tup h1 h2 => exact ⟨_, _, rfl, SqT.mono (rd_same hs) h1, h2.length.symm.trans hl, sn Z H σ Γ F ds _ R _ hs rs h2 m k⟩
end
/-! ### own slots forgotten -/
theorem wipe_idem {σ : St} : ∀ vs : List Nat, wipe (wipe σ vs) vs = wipe σ vs := by
  intro vs
  apply List.ext_getElem?
  intro j
  by_cases hj : j ∈ vs
  · have key : ∀ (τ : St) (vs : List Nat), j ∈ vs → (wipe τ vs)[j]? = if j < τ.length then some none else none := by
      intro τ vs
      induction vs with
      | nil => intro h; cases h
      | cons v vs ih =>
        intro h
        unfold wipe
        by_cases e : v = j
        · subst e
          by_cases hl : v < τ.length
          · rw [List.getElem?_set_self (by rw [wipe_length]; exact hl), if_pos hl]
          · rw [List.getElem?_eq_none (by rw [List.length_set, wipe_length]; omega), if_neg hl]
        · rw [List.getElem?_set_ne e]
          exact ih (by simpa [Ne.symm e] using h)
    rw [key _ _ hj, key _ _ hj, wipe_length]
  · rw [wipe_out hj]
def wipeS (Γ : Sl) : List Nat → Sl
  | [] => Γ
  | v :: vs => (wipeS Γ vs).set v none
theorem wipeS_length (Γ : Sl) : ∀ vs : List Nat, (wipeS Γ vs).length = Γ.length
  | [] => rfl
  | v :: vs => by unfold wipeS; rw [List.length_set, wipeS_length Γ vs]
section
variable {K : PySem.W.Frag} {Z H : Hp}
theorem rsl_setn {Γ : Sl} {σ : St} {F : List Addr} (r : Rsl K Z H Γ σ F) (i : Nat) (y : Option V) : ∃ F', Rsl K Z H (Γ.set i none) (σ.set i y) F' ∧ ∀ x ∈ F', x ∈ F := by
  obtain ⟨F', r', sub⟩ := r.forget i
  by_cases hi : i < Γ.length
  · exact ⟨F', r'.any y (by rw [List.getElem?_set_self hi]), sub⟩
  · have hi' : σ.length ≤ i := by rw [← r.length]; omega
    rw [List.set_eq_of_length_le hi']
    exact ⟨F', r', sub⟩
theorem rsl_wipe {Γ : Sl} {σ : St} {F : List Addr} (r : Rsl K Z H Γ σ F) : ∀ vs : List Nat, ∃ F', Rsl K Z H (wipeS Γ vs) (wipe σ vs) F' ∧ ∀ x ∈ F', x ∈ F
  | [] => ⟨F, r, fun x h => h⟩
  | v :: vs => by
    obtain ⟨F', r', sub⟩ := rsl_wipe r vs
    obtain ⟨F2, r2, sub2⟩ := rsl_setn r' v none
    exact ⟨F2, r2, fun x h => sub x (sub2 x h)⟩
theorem rsl_swap {Γ : Sl} {σ : St} {F : List Addr} (r : Rsl K Z H Γ σ F) : ∀ {σ' : St}, σ'.length = σ.length → (∀ i : Nat, Γ[i]? = some none ∨ σ[i]? = σ'[i]?) → Rsl K Z H Γ σ' F := by
  induction r with
  | nil =>
    intro σ' h _
    have : σ' = [] := by simpa using h
    subst this
    exact .nil
  | gap r ih =>
    intro σ' h e
    cases σ' with
    | nil => simp at h
    | cons y σ' => exact .gap (ih (by simpa using h) fun i => by simpa using e (i + 1))
  | has h1 r n ih =>
    intro σ' h e
    cases σ' with
    | nil => simp at h
    | cons y σ' =>
      have e0 := e 0
      simp at e0
      subst e0
      exact .has h1 (ih (by simpa using h) fun i => by simpa using e (i + 1)) n
theorem wipeS_at {Γ : Sl} {i : Nat} : ∀ {vs : List Nat}, i ∈ vs → i < Γ.length → (wipeS Γ vs)[i]? = some none
  | v :: vs, h, hl => by
    unfold wipeS
    by_cases e : v = i
    · subst e
      rw [List.getElem?_set_self (by rw [wipeS_length]; exact hl)]
    · rw [List.getElem?_set_ne e]
      exact wipeS_at (by simpa [Ne.symm e] using h) hl
theorem rsl_unwipe {Γ : Sl} {σ : St} {F : List Addr} {vs : List Nat} (r : Rsl K Z H (wipeS Γ vs) (wipe σ vs) F) : Rsl K Z H (wipeS Γ vs) σ F := by
  refine rsl_swap r (wipe_length σ vs).symm fun i => ?_
  by_cases hi : i ∈ vs
  · by_cases hl : i < Γ.length
    · exact .inl (wipeS_at hi hl)
    · refine .inr ?_
      have e := r.length
      rw [wipeS_length, wipe_length] at e
      rw [List.getElem?_eq_none (by rw [wipe_length]; omega), List.getElem?_eq_none (by omega)]
  · exact .inr (wipe_out hi)
end
def lcL (g : MG1) (tt : MT) (te : ME) (vs : List Nat) (R : List D → Sl → Prop) : List D → List D → Sl → Prop
  | [], acc, Γ => R acc Γ
  | d :: ds, acc, Γ => g d Γ fun Γ1 => tt Γ1 (fun b Γ2 => if b = true then te Γ2 (fun t Γ3 => acc.length < sizeLine ∧ lcL g tt te vs R ds (acc ++ [t.toD]) (wipeS Γ3 vs)) noX else lcL g tt te vs R ds acc (wipeS Γ2 vs)) noX
def mLc (mi : MI) (g : MG1) (tt : MT) (te : ME) (vs : List Nat) : ME := fun Γ R XR => mi Γ (fun ds Γ' => lcL g tt te vs (fun acc Γ'' => R (.bl acc) Γ'') ds [] (wipeS Γ' vs)) XR
theorem xok_no {K : PySem.W.Frag} {Z H : Hp} {F : List Addr} {σ : St} {W : WX} : XOk K Z H F σ noX W := fun _ _ _ _ _ _ _ _ _ _ _ q => q.elim
theorem snd_lc {K : PySem.W.Frag} {W : WX} {wi : TI} {mi : MI} {g : MG1} {tt : MT} {te : ME} {vs : List Nat} (si : SndI K W wi mi) : Snd K W (tLc wi (canG K vs g) (canT K noW tt) (canE K noW te) vs) (mLc mi g tt te vs) := fun Z H σ Γ F R XR Q hs rs m k x => by
  refine si Z H σ Γ F _ XR _ hs rs m (fun Z0 H0 Γ0 F0 J its s0 e0 r0 vit q0 D hD => ?_) x
  obtain ⟨F1, r1, sub1⟩ := rsl_wipe r0 vs
  have zD : Z0 D = none := s0.free hD
  have stp := PStep.new s0 (o := .lst []) hD
  have nD : D ∉ F1 := fun h => by obtain ⟨_, o, ho⟩ := r1.foot D h; rw [hD] at ho; cases ho
  refine ⟨fun i n H' => ∃ Z' Γ' F' acc accV, Same Z0 Z' ∧ Same Z' H' ∧ Ext Z H F Z' H' (F' ++ [D]) ∧ Rsl K Z' H' (wipeS Γ' vs) (wipe σ vs) F' ∧ D ∉ F' ∧ Z' D = none ∧ H' D = some (.lst accV) ∧ Rzs K Z' acc accV ∧ i ≤ its.length ∧ n = its.length - i ∧
    lcL g tt te vs (fun acc Γ'' => R (.bl acc) Γ'') (its.drop i) acc (wipeS Γ' vs), ⟨its.length, Z0, Γ0, F1, [], [], .refl _, stp.zh, ?_, stp.slots r1, nD, zD, upd_same, .nil, Nat.zero_le _, by simp, by simpa using q0⟩, ?_⟩
  · exact (e0.sub sub1).trans (stp.ext (G := [D]) fun y hy => by rw [List.mem_singleton.mp hy]; exact hD)
  rintro i n H1 ⟨Z1, Γ1, F1, acc, accV, z1, s1, e1, r1, nD, zD, hD, racc, hi, hn, q1⟩
  have rD : Rp K Z1 H1 (.bl acc) (.ref D) [D] := .bl hD zD racc
  have nDF : ∀ y ∈ [D], y ∉ F1 := fun y hy => by rw [List.mem_singleton.mp hy]; exact nD
  by_cases hlt : i < its.length
  · have ed : its.drop i = its[i] :: its.drop (i + 1) := List.drop_eq_getElem_cons hlt
    rw [ed] at q1
    refine .inr ⟨vit.go Z1 H1 z1 s1 i hlt, fun H' => ∃ Z' Γ' F' acc accV, Same Z0 Z' ∧ Same Z' H' ∧ Ext Z H F Z' H' (F' ++ [D]) ∧ Rsl K Z' H' (wipeS Γ' vs) (wipe σ vs) F' ∧ D ∉ F' ∧ Z' D = none ∧ H' D = some (.lst accV) ∧ Rzs K Z' acc accV ∧
      lcL g tt te vs (fun acc Γ'' => R (.bl acc) Γ'') (its.drop (i + 1)) acc (wipeS Γ' vs), ?_, ?_⟩
    · rintro H' ⟨Z', Γ', F', acc', accV', z', s', e', r', nd', zd', hd', ra', q'⟩
      exact ⟨its.length - (i + 1), by omega, Z', Γ', F', acc', accV', z', s', e', r', nd', zd', hd', ra', hlt, rfl, q'⟩
    · intro xv H2 y
      obtain ⟨Z2, st, rz⟩ := vit.yld Z1 H1 z1 s1 i _ xv H2 (List.getElem?_eq_getElem hlt) y
      have e2 : Ext Z1 H1 F1 Z2 H2 F1 := by simpa using st.ext (F := F1) (G := []) (fun x hx => absurd hx (by simp))
      refine ⟨Z2, wipeS Γ1 vs, F1, its[i], _, st.zh, st.slots r1, rz, q1, fun σ3 Γ3 F3 r3 sub3 p3 q3 => ⟨p3.trans (wipe_idem vs), ?_⟩⟩
      have e2' : Ext Z1 H1 F1 Z2 H2 F3 := e2.sub sub3
      have p3' : wipe σ3 vs = wipe σ vs := p3.trans (wipe_idem vs)
      refine ⟨Z2, Γ3, F3, _, noX, st.zh, r3, q3, fun Z4 H4 Γ4 F4 b s4 e4 r4 q4 => ?_, xok_no⟩
      have e14 := e2'.trans e4
      cases b with
      | false =>
        obtain ⟨F5, r5, sub5⟩ := rsl_wipe r4 vs
        rw [p3'] at r5
        have e15 := e14.sub sub5
        obtain ⟨kD, knD⟩ := e15.keeps rD nDF
        cases kD with
        | bl h1 h2 h3 => exact ⟨Z4, Γ4, F5, acc, _, z1.trans (st.z.trans e4.z), s4, e1.tr e15, r5, knD D (by simp), h2, h1, h3, q4⟩
      | true =>
        refine ⟨Z4, Γ4, F4, _, noX, s4, r4, q4, fun Z6 H6 Γ6 F6 ty vy G6 s6 e6 r6 p6 n6 q6 => ?_, xok_no⟩
        have h0 : ∀ x ∈ G6, Z6 x = none := fun x hx => (p6.foot x hx).1
        have e7 := ext_frz e6 h0
        have r7 := frz_slots r6 h0 n6
        have rz7 := p6.freeze (frzH_same (H := H6) h0) frzH_at
        have s7 := frzH_below (F := G6) s6
        obtain ⟨F8, r8, sub8⟩ := rsl_wipe r7 vs
        rw [p3'] at r8
        have e18 := (e14.trans e7).sub sub8
        obtain ⟨kD, knD⟩ := e18.keeps rD nDF
        cases kD with
        | @bl _ vsD a h1 h2 h3 =>
          have nDF8 : D ∉ F8 := knD D (by simp)
          refine ⟨vsD, h1, by rw [← h3.length]; exact q6.1, frzH Z6 H6 G6, Γ6, F8, acc ++ [ty.toD], vsD ++ [vy], z1.trans (st.z.trans (e4.z.trans e7.z)), same_chg s7 h2, ?_, ?_, nDF8, h2, upd_same, h3.append (.one rz7), q6.2⟩
          · have e9 := e1.tr e18
            have e10 : Ext (frzH Z6 H6 G6) H6 (F8 ++ [D]) (frzH Z6 H6 G6) (upd H6 D (.lst (vsD ++ [vy]))) (F8 ++ [D]) :=
              ⟨.refl _, fun a h => .inl h, fun a o h n => ⟨by rw [upd_ne (fun z => n (by simp [z]))]; exact h, n⟩⟩
            exact e9.trans e10
          · exact r8.mono (.refl _) fun y hy => by
              obtain ⟨hz, _⟩ := r8.foot y hy
              exact ⟨hz, upd_ne fun z => nDF8 (by rw [← z]; exact hy)⟩
  · have ei : i = its.length := by omega
    subst ei
    rw [List.drop_length] at q1
    exact .inl ⟨vit.stop Z1 H1 z1 s1, k Z1 H1 (wipeS Γ1 vs) F1 (.bl acc) (.ref D) [D] s1 e1 (rsl_unwipe r1) rD nDF q1⟩
section
variable {X : Cx} {W : WX}
theorem ve_lc {elt tg iter : Expr} {ifs : List Expr} {scope : Scope} {pos : Pos} {mi : MI} {g : MG1} {tt : MT} {te : ME} (own : List (Str × Nat)) (hc : X.calm = true) (hN : X.N.Nodup) (hi : VI X W tg iter mi) (ok : BlkOk X.N X.env.scope scope own)
    (hb : ∀ (s : Shared) (H : Hp) (C : Addr) (cl : List (Str × Addr)) (fp : List Addr), VTc (X.blk s H scope (compEnvC scope cl C X.env) fp) (own.map (·.2)) tg g ∧ VTs (X.blk s H scope (compEnvC scope cl C X.env) fp) ifs tt ∧ VE (X.blk s H scope (compEnvC scope cl C X.env) fp) noW elt te)
    (hs : ∀ x, foldedSetIterable iter X.env x = pure x := by intro _; rfl) : VE X W (.ListComp elt [⟨tg, iter, ifs, 0⟩] scope pos) (mLc mi g tt te (own.map (·.2))) := by
  obtain ⟨wi, pi, si⟩ := hi.ex
  exact ⟨_, pe_lc hc hN pi ok (fun s H C cl fp => (hb s H C cl fp).1.can) (fun s H C cl fp => (hb s H C cl fp).2.1.run) (fun s H C cl fp => (hb s H C cl fp).2.2.can) hs, snd_lc si⟩
theorem vs_setLc {np i : Nat} {y : Str} {py : Pos} {elt tg iter : Expr} {ifs : List Expr} {scope : Scope} {pos spos : Pos} {mi : MI} {g : MG1} {tt : MT} {te : ME} (own : List (Str × Nat)) (hc : X.calm = true) (hN : X.N.Nodup) (hi : VI X W tg iter mi) (ok : BlkOk X.N X.env.scope scope own)
    (hb : ∀ (s : Shared) (H : Hp) (C : Addr) (cl : List (Str × Addr)) (fp : List Addr), VTc (X.blk s H scope (compEnvC scope cl C X.env) fp) (own.map (·.2)) tg g ∧ VTs (X.blk s H scope (compEnvC scope cl C X.env) fp) ifs tt ∧ VE (X.blk s H scope (compEnvC scope cl C X.env) fp) noW elt te)
    (hp : np ≤ i := by decide) (hy : X.N[i]? = some y := by rfl) (hyl : X.env.scope.names.lookup y = some .local := by rfl) (hsw : swapsWith (.ListComp elt [⟨tg, iter, ifs, 0⟩] scope pos) (some (.Name y py)) spos.line X.env = pure true := by rfl)
    (hs : ∀ x, foldedSetIterable iter X.env x = pure x := by intro _; rfl) : VS X W np (.Assign [.Name y py] (.ListComp elt [⟨tg, iter, ifs, 0⟩] scope pos) spos) (sSet i (mLc mi g tt te (own.map (·.2)))) := by
  obtain ⟨wi, pi, si⟩ := hi.ex
  refine ⟨_, ps_setLc (g := canG X.K (own.map (·.2)) g) (tt := canT X.K noW tt) (te := canE X.K noW te) hc hN hy hyl hsw pi ok (fun s H C cl fp => (hb s H C cl fp).1.can) (fun s H C cl fp => (hb s H C cl fp).2.1.run) (fun s H C cl fp => (hb s H C cl fp).2.2.can) hs, fun Z H σ Γ F M E hs rs m k => ?_⟩
  refine snd_lc si Z H σ Γ F _ M.xr _ hs rs m (fun Z' H' Γ' F' r v G s1 e1 r1 p1 n1 q => ?_) k.xok
  obtain ⟨F2, rs2, sub⟩ := put_slot r1 q.1 p1 n1
  exact k.nx Z' H' _ _ F2 s1 (e1.sub fun a ha => List.mem_append.mpr (sub a ha)) rs2 (take_set hp) q.2
end
end VL
set_option Elab.async false
set_option linter.all false
set_option autoImplicit false
set_option maxRecDepth 100000
set_option maxHeartbeats 2000000
/-! VL12: stores into containers, methods of texts, built-in calls, chains, displays of dicts. -/
namespace VL
open PySem PySem.Spec L2 TL
open PyProof.Rows hiding St

/-! ### x[i] = v -/
/-- of the container's tree, the index and the value: the tree behind -/
def SetV (X : Cx) (op : T → D → D → (T → Prop) → Prop) : Prop :=
  ∃ r : TSet, PSet X r ∧ ∀ Z H t v G i iv d dv (R : T → Prop) (Q : Hp → Prop), Same Z H → Rp X.K Z H t v G → Rz X.K Z i iv → Rz X.K Z d dv → op t i d R →
    (∀ H' t' G', Same Z H' → (∀ a, a ∉ G → H' a = H a) → Rp X.K Z H' t' v G' → (∀ x ∈ G', x ∈ G) → R t' → Q H') → r v iv dv H Q
theorem SetV.or {X : Cx} {a b : T → D → D → (T → Prop) → Prop} (h : SetV X a) (g : SetV X b) : SetV X (fun t i d R => a t i d R ∨ b t i d R) := by
  obtain ⟨r, h1, h2⟩ := h
  obtain ⟨r', g1, g2⟩ := g
  refine ⟨fun o i v H Q => r o i v H Q ∨ r' o i v H Q, fun pins s σ H o i v ov iv u Q I ro ri rv q => q.elim (fun q => h1 pins s σ H o i v ov iv u Q I ro ri rv q) fun q => g1 pins s σ H o i v ov iv u Q I ro ri rv q, ?_⟩
  intro Z H t v G i iv d dv R Q hs rp ri rd q k
  exact q.elim (fun q => .inl (h2 Z H t v G i iv d dv R Q hs rp ri rd q k)) fun q => .inr (g2 Z H t v G i iv d dv R Q hs rp ri rd q k)
def oPutL : T → D → D → (T → Prop) → Prop := fun t i d R => ∃ ds k j, t = .bl ds ∧ i = .int k ∧ ixN ds.length k = some j ∧ R (.bl (ds.set j d))
def oPutD : T → D → D → (T → Prop) → Prop := fun t i d R => ∃ kvs k, t = .bd kvs ∧ i.key = some k ∧ kvs.length < sizeLine ∧ R (.bd (putD kvs k d))
def oPut : T → D → D → (T → Prop) → Prop := fun t i d R => oPutL t i d R ∨ oPutD t i d R
section
variable {X : Cx}
theorem sv_list : SetV X oPutL := ⟨_, set_list, fun Z H t v G i iv d dv R Q hs rp ri rd ⟨ds, k, j, e1, e2, hj, q⟩ kk => by
  subst e1; subst e2
  cases rp with
  | @bl _ vs a h1 h2 h3 =>
    cases ri
    refine ⟨a, vs, k, j, rfl, rfl, h1, by rw [← h3.length]; exact hj, ?_⟩
    exact kk _ (.bl (ds.set j d)) [a] (same_chg hs h2) (fun b hb => upd_ne fun z => hb (by rw [z]; simp)) (chg_bl h2 (h3.set rd j)) (fun x hx => hx) q⟩
theorem sv_dict (hu : X.A.units + 1 < cLine) : SetV X oPutD := ⟨_, set_dict hu, fun Z H t v G i iv d dv R Q hs rp ri rd ⟨kvs, k, e1, e2, hl, q⟩ kk => by
  subst e1
  cases rp with
  | @bd _ kvs' a h1 h2 h3 h4 =>
    have ek := keyV (Vw.rz (H := H) ri) e2
    subst ek
    have hl' : kvs'.length < sizeLine := by
      have := congrArg List.length h3
      rw [List.length_map, List.length_map] at this
      omega
    refine ⟨a, _, rfl, .k h1 hl', ?_⟩
    obtain ⟨p1, p2⟩ := rzs_putD h3 h4 k rd
    exact kk _ (.bd (putD kvs k d)) [a] (same_chg hs h2) (fun b hb => upd_ne fun z => hb (by rw [z]; simp)) (.bd upd_same h2 p1 p2) (fun x hx => hx) q⟩
theorem sv (hu : X.A.units + 1 < cLine) : SetV X oPut := sv_list.or (sv_dict hu)
/-- the target x[i], x a name -/
def tSub (i : Nat) (op : T → D → D → (T → Prop) → Prop) (mi : ME) : MG1 := fun d Γ R => slT Γ i (fun _ => True) ∧ mi Γ (fun ti Γ' => slT Γ' i fun t => op t ti.toD d fun t' => R (Γ'.set i (some t'))) noX
theorem vtg_sub {np i : Nat} {x : Str} {ie : Expr} {mi : ME} {op : T → D → D → (T → Prop) → Prop} {px pos : Pos} (hv : SetV X op) (hi : VE X noW ie mi) (hN : X.N[i]? = some x := by rfl)
    (hvs : Vis X.env.scope x := by first | exact Or.inl rfl | exact Or.inr (Or.inl rfl) | exact Or.inr (Or.inr rfl)) (hd : (x == ("__debug__" : Str)) = false := by decide) (hcd : (x == ("__classdict__" : Str)) = false := by decide)
    (ha : ∀ v, assign (.Subscript (.Name x px) ie pos) X.env v = (do
      let ov ← holding [v] (eval (.Name x px) X.env)
      let iv ← holding [v, ov] (eval ie X.env)
      standAt pos
      holding [v, ov, iv] (setItem ov iv v)
      release [v, ov, iv] []) := by intro _; rfl) : VTg X np (.Subscript (.Name x px) ie pos) (tSub i op mi) := by
  obtain ⟨r, h1, h2⟩ := hv
  obtain ⟨ti, pi, si⟩ := hi.ex
  refine ⟨_, pg_sub (pe_var hN hvs hd hcd) pi h1 ha, fun Z H σ Γ F d v R Q hs rs rz m k => ?_⟩
  obtain ⟨t0, et0, _⟩ := slT_at m.1
  obtain ⟨ov, G0, ev, rp0, _⟩ := rs.at et0
  refine ⟨ov, ev, snd_frz si (R := fun di Γ' => slT Γ' i fun t => op t di d fun t' => R (Γ'.set i (some t'))) hs rs m.2 (fun Z1 H1 Γ1 F1 di iv s1 e1 r1 ri q1 => ?_) xok_no⟩
  obtain ⟨t, et, q⟩ := slT_at q1
  obtain ⟨v2, G, ev2, rp, sub⟩ := r1.at et
  rw [ev] at ev2
  cases ev2
  refine h2 Z1 H1 t ov G di iv d v _ _ s1 rp ri (rz.mono e1.z) q (fun H' t' G' sm hk rp' sub' qq => ?_)
  obtain ⟨F', r', m'⟩ := r1.chg et ev rp hk rp' sub'
  have ex2 : Ext Z1 H1 F1 Z1 H' F' := ⟨.refl _, fun a h => .inl h, fun a o h n => ⟨by rw [hk a fun q => n (sub a q)]; exact h, fun q => n (m' a q)⟩⟩
  exact k Z1 H' σ _ F' sm (e1.trans ex2) r' rfl qq
/-! ### self.f = e -/
def putT (f : Str) (t : T) : List (Str × T) → List (Str × T)
  | [] => [(f, t)]
  | (g, x) :: r => if g = f then (g, t) :: r else (g, x) :: putT f t r
theorem putT_rep {K : PySem.W.Frag} {Z H : Hp} {f : Str} {t : T} {v : V} {G : List Addr} (rt : Rp K Z H t v G) : ∀ {fs : List (Str × T)} {fs' : List (Str × V)} {F : List Addr}, fs'.map (·.1) = fs.map (·.1) → Rps K Z H (fs.map (·.2)) (fs'.map (·.2)) F → (∀ x ∈ G, x ∉ F) →
    ∃ F', (putF f v fs').map (·.1) = (putT f t fs).map (·.1) ∧ Rps K Z H ((putT f t fs).map (·.2)) ((putF f v fs').map (·.2)) F' ∧ ∀ x ∈ F', x ∈ F ∨ x ∈ G
  | [], [], _, _, r, n => by
    cases r
    exact ⟨G ++ [], rfl, .cons rt .nil (fun x _ h => absurd h (by simp)), fun x hx => .inr (by simpa using hx)⟩
  | [], _ :: _, _, e, _, _ => by simp at e
  | _ :: _, [], _, e, _, _ => by simp at e
  | (g, x) :: fs, (g', y) :: fs', _, e, r, n => by
    simp only [List.map_cons, List.cons.injEq] at e
    obtain ⟨rfl, e⟩ := e
    simp only [List.map_cons] at r
    cases r with
    | @cons _ _ F1 _ _ F2 h1 r d =>
      by_cases hg : g' = f
      · refine ⟨G ++ F2, ?_, ?_, fun x hx => (List.mem_append.mp hx).elim .inr fun h => .inl (List.mem_append_right _ h)⟩
        · simp only [putF, putT, if_pos hg, List.map_cons, e]
        · simp only [putF, putT, if_pos hg, List.map_cons]
          exact .cons rt r fun x hx hx' => n x hx (List.mem_append_right _ hx')
      · obtain ⟨F', p1, p2, p3⟩ := putT_rep (f := f) rt e r (fun x hx hx' => n x hx (List.mem_append_right _ hx'))
        refine ⟨F1 ++ F', ?_, ?_, fun x hx => ?_⟩
        · simp only [putF, putT, if_neg hg, List.map_cons, p1]
        · simp only [putF, putT, if_neg hg, List.map_cons]
          exact .cons h1 p2 fun x hx hx' => (p3 x hx').elim (d x hx) fun h => n x h (List.mem_append_left _ hx)
        · rcases List.mem_append.mp hx with h | h
          · exact .inl (List.mem_append_left _ h)
          · exact (p3 x h).elim (fun h => .inl (List.mem_append_right _ h)) .inr
def sFldS (i : Nat) (Cs : List Addr) (f : Str) (m : ME) : MS := fun Γ M => m Γ (fun t Γ' => ∃ C fs, Γ'[i]? = some (some (.bo C fs)) ∧ C ∈ Cs ∧ fs.length < 1000 ∧ M.nx (Γ'.set i (some (.bo C (putT f t fs))))) M.xr
theorem vs_fld {W : WX} {np i : Nat} {x f : Str} {Cs : List Addr} {e : Expr} {m : ME} {px pos' pos : Pos} (hc : FldOk X.K Cs f) (h : VE X W e m) (hN : X.N[i]? = some x := by rfl)
    (hvs : Vis X.env.scope x := by first | exact Or.inl rfl | exact Or.inr (Or.inl rfl) | exact Or.inr (Or.inr rfl)) (hd : (x == ("__debug__" : Str)) = false := by decide) (hcd : (x == ("__classdict__" : Str)) = false := by decide)
    (hs : swapsWith e (some (.Attribute (.Name x px) f pos')) pos.line X.env = pure false := by rfl) : VS X W np (.Assign [.Attribute (.Name x px) f pos'] e pos) (sFldS i Cs f m) := by
  obtain ⟨t, pe, sn⟩ := h.ex
  refine ⟨_, ps_fld (pe_var hN hvs hd hcd) pe hs, fun Z H σ Γ F M E hs rs m k => sn Z H σ Γ F _ M.xr _ hs rs m (fun Z1 H1 Γ1 F1 t v G s1 e1 r1 p1 n1 q => ?_) k.xok⟩
  obtain ⟨C, fs, et, hC, hl, q⟩ := q
  obtain ⟨ov, G0, F0, ev, rp, r0, mm, nn⟩ := r1.out et
  cases rp with
  | @bo _ dx _ fs' a F2 h1 h2 h3 h4 h5 =>
    have lf : fs'.length = fs.length := by
      have := congrArg List.length h3
      rwa [List.length_map, List.length_map] at this
    refine ⟨.ref a, ev, a, C, dx, fs', rfl, h1, (hc _ hC).1, (hc _ hC).2, by omega, ?_⟩
    have aF : a ∈ F1 := (mm a).mpr (.inl (by simp))
    have aG : a ∉ G := fun h => n1 a h aF
    obtain ⟨F', p1', p2', p3'⟩ := putT_rep (f := f) p1 h3 h4 (fun x hx hx' => n1 x hx ((mm x).mpr (.inl (List.mem_cons_of_mem _ hx'))))
    have aF' : a ∉ F' := fun h => (p3' a h).elim h5 aG
    have keep : ∀ b, b ≠ a → upd H1 a (.ins C dx (putF f v fs')) b = H1 b := fun b hb => upd_ne hb
    have rn : Rp X.K Z1 (upd H1 a (.ins C dx (putF f v fs'))) (.bo C (putT f t fs)) (.ref a) (a :: F') := .bo upd_same h2 p1' (p2'.mono (.refl _) fun b hb => by
      have := (p2'.foot b hb).1
      exact ⟨this, keep b fun z => aF' (by rw [← z]; exact hb)⟩) aF'
    have r2 : Rsl X.K Z1 (upd H1 a (.ins C dx (putF f v fs'))) (Γ1.set i none) σ F0 := r0.mono (.refl _) fun b hb => ⟨(r0.foot b hb).1, keep b fun z => nn a (by simp) (by rw [← z]; exact hb)⟩
    have hi : i < (Γ1.set i none).length := by rw [List.length_set]; exact (List.getElem?_eq_some_iff.mp et).1
    obtain ⟨F3, r3, m3⟩ := r2.put hi rn (fun b hb hb' => by
      rcases List.mem_cons.mp hb with z | z
      · exact nn a (by simp) (by rw [← z]; exact hb')
      · rcases p3' b z with z | z
        · exact nn b (List.mem_cons_of_mem _ z) hb'
        · exact n1 b z ((mm b).mpr (.inr hb')))
    rw [set_same ev, List.set_set] at r3
    have ex2 : Ext Z1 H1 (F1 ++ G) Z1 (upd H1 a (.ins C dx (putF f v fs'))) F3 := ⟨.refl _, fun b h => .inl h, fun b o h n => ⟨by rw [keep b fun z => n (by rw [z]; exact List.mem_append_left _ aF)]; exact h, fun hb => n ?_⟩⟩
    · exact k.nx Z1 _ σ _ F3 (same_chg s1 h2) (e1.trans ex2) r3 rfl q
    · rcases m3 b hb with h | h
      · exact List.mem_append_left _ ((mm b).mpr (.inr h))
      · rcases List.mem_cons.mp h with z | z
        · rw [z]; exact List.mem_append_left _ aF
        · rcases p3' b z with z | z
          · exact List.mem_append_left _ ((mm b).mpr (.inl (List.mem_cons_of_mem _ z)))
          · exact List.mem_append_right _ z
end

/-! ### methods of texts -/
def StrV (X : Cx) (id : String) (op : Str → List D → (T → Prop) → Prop) : Prop :=
  ∃ r, MtR X id r ∧ ∀ Z H s ds vs R Q, Same Z H → PyData.strOk s = true → Rzs X.K Z ds vs → op s ds R → PK X.K Z H R Q → r (.str s) vs H Q
def mStr1 (op : Str → List D → (T → Prop) → Prop) (mo me : ME) : ME := fun Γ R XR => mo Γ (fun t Γ1 => ∃ s, t = .frz (.str s) ∧ me Γ1 (fun te Γ2 => op s [te.toD] fun t' => R t' Γ2) XR) XR
def mStr0 (op : Str → List D → (T → Prop) → Prop) (mo : ME) : ME := fun Γ R XR => mo Γ (fun t Γ1 => ∃ s, t = .frz (.str s) ∧ op s [] fun t' => R t' Γ1) XR
section
variable {X : Cx} {W : WX}
theorem ve_str1 {id : String} {op : Str → List D → (T → Prop) → Prop} {name : Str} {apos pos : Pos} {o e : Expr} {mo me : ME} (slot : Slot "str" name id) (ty : typeOf (.builtin id) = pure (.type "method_descriptor")) (h : StrV X id op) (ho : VE X W o mo) (he : VE X W e me)
    (hs : starEach [e] X.env = [(false, eval e X.env)] := by rfl) (hbase : attributeBase o name X.env (eval o X.env) = eval o X.env := by rfl) (hline : (apos.endLine == pos.line) = true := by rfl) : VE X W (.Call (.Attribute o name apos) [e] [] pos) (mStr1 op mo me) := by
  obtain ⟨r, h1, h2⟩ := h
  obtain ⟨to, po, so⟩ := ho.ex
  obtain ⟨te, pe, se⟩ := he.ex
  refine ⟨_, pe_m1 slot ty h1 po pe hs hbase hline, fun Z H σ Γ F R XR Q hs rs m k x => ?_⟩
  refine so Z H σ Γ F _ XR _ hs rs m (fun Z1 H1 Γ1 F1 t v G s1 e1 r1 p1 n1 q1 => ?_) x
  obtain ⟨s, et, q1⟩ := q1
  subst et
  cases p1 with
  | frz rz =>
    cases rz with
    | str _ ok =>
      have e1' := e1.sub fun _ h => List.mem_append_left _ h
      refine ⟨⟨s, rfl⟩, snd_frz se (R := fun d Γ2 => op s [d] fun t' => R t' Γ2) s1 r1 q1 (fun Z2 H2 Γ2 F2 d v s2 e2 r2 rz q2 => ?_) (x.step0 e1')⟩
      exact h2 Z2 H2 s [d] [v] _ Q s2 ok (.cons rz .nil) q2 (k.ofPE (e1'.trans e2) r2)
theorem ve_str0 {id : String} {op : Str → List D → (T → Prop) → Prop} {name : Str} {apos pos : Pos} {o : Expr} {mo : ME} (slot : Slot "str" name id) (ty : typeOf (.builtin id) = pure (.type "method_descriptor")) (h : StrV X id op) (ho : VE X W o mo)
    (hbase : attributeBase o name X.env (eval o X.env) = eval o X.env := by rfl) (hline : (apos.endLine == pos.line) = true := by rfl) : VE X W (.Call (.Attribute o name apos) [] [] pos) (mStr0 op mo) := by
  obtain ⟨r, h1, h2⟩ := h
  obtain ⟨to, po, so⟩ := ho.ex
  refine ⟨_, pe_m0 slot ty h1 po hbase hline, fun Z H σ Γ F R XR Q hs rs m k x => ?_⟩
  refine so Z H σ Γ F _ XR _ hs rs m (fun Z1 H1 Γ1 F1 t v G s1 e1 r1 p1 n1 q1 => ?_) x
  obtain ⟨s, et, q1⟩ := q1
  subst et
  cases p1 with
  | frz rz =>
    cases rz with
    | str _ ok => exact ⟨⟨s, rfl⟩, h2 Z1 H1 s [] [] _ Q s1 ok .nil q1 (k.ofPE (e1.sub fun _ h => List.mem_append_left _ h) r1)⟩
def oSplit : Str → List D → (T → Prop) → Prop := fun s ds R => ∃ b, ds = [.str b] ∧ (b.length == 0) = false ∧ s.length + 2 ≤ sizeLine ∧ R (.bl ((Txt.split s b).map D.str))
theorem st_split : StrV X "str.split" oSplit := ⟨_, mt_split, fun Z H s ds vs R Q hs ok rz ⟨b, e, hb, hl, q⟩ k => by
  subst e
  cases rz with
  | cons r0 rr =>
    cases rr
    cases r0
    exact ⟨s, b, rfl, rfl, hb, hl, k.lst hs (.ofStrs _ fun z hz => strOk_split ok hz) q⟩⟩
def oJoin : Str → List D → (T → Prop) → Prop := fun s ds R => ∃ ys : List Str, (ds = [.lst (ys.map D.str)] ∨ ds = [.tup (ys.map D.str)]) ∧ (ys.map (·.length)).sum + ys.length * s.length ≤ 16777216 ∧ R (.frz (.str (Txt.join s ys)))
theorem st_join : StrV X "str.join" oJoin := ⟨_, mt_join, fun Z H s ds vs R Q hs ok rz ⟨ys, e, hl, q⟩ k => by
  rcases e with e | e
  · subst e
    cases rz with
    | cons r0 rr =>
      cases rr
      cases r0 with
      | lst h1 h2 =>
        have okp := Rzs.strsOk h2
        have ev := Rzs.strs h2
        subst ev
        exact ⟨s, _, ys, rfl, rfl, .inl (.inl (.inl (hs _ _ h1))), hl, k.frz hs (.str _ (strOk_join ok okp)) q⟩
  · subst e
    cases rz with
    | cons r0 rr =>
      cases rr
      cases r0 with
      | tup h1 h2 =>
        have okp := Rzs.strsOk h2
        have ev := Rzs.strs h2
        subst ev
        exact ⟨s, _, ys, rfl, rfl, .inr (SqT.mono (rd_same hs) h1), hl, k.frz hs (.str _ (strOk_join ok okp)) q⟩⟩

/-! ### built-in calls -/
def oLen : D → (T → Prop) → Prop := fun d R => match d with
  | .str s => s.length ≤ sizeLine ∧ R (.frz (.int s.length))
  | .lst ds => R (.frz (.int ds.length))
  | .tup ds => R (.frz (.int ds.length))
  | .scr ns => R (.frz (.int ns.length))
  | _ => False
theorem cv_len : CallV1 X (.builtin "len") oLen := ⟨_, call_len, fun Z H d v R Q hs w q k => by
  cases d with
  | str s => rw [w.strE.1]; exact ⟨_, _, rfl, ⟨q.1, rfl⟩, k.frz hs (.int _) q.2⟩
  | lst ds =>
    obtain ⟨a, vs, rfl, h1, r⟩ := w.lstE hs
    exact ⟨_, _, rfl, .inl ⟨vs, .inl (.inl h1), rfl⟩, by rw [← r.length]; exact k.frz hs (.int _) q⟩
  | tup ds =>
    obtain ⟨a, vs, rfl, h1, r⟩ := w.tupE hs
    exact ⟨_, _, rfl, .inr ⟨vs, h1, rfl⟩, by rw [← r.length]; exact k.frz hs (.int _) q⟩
  | scr ns =>
    obtain ⟨a, rfl, h1⟩ := w.scrE hs
    exact ⟨_, _, rfl, .inl ⟨_, h1, rfl⟩, by rw [List.length_map]; exact k.frz hs (.int _) q⟩
  | _ => exact q.elim⟩
def oInt1 : D → (T → Prop) → Prop := fun d R => match d with
  | .int i => R (.frz (.int i))
  | .bl b => R (.frz (.int (if b then 1 else 0)))
  | _ => False
theorem cv_int : CallV1 X (.type "int") oInt1 := ⟨_, call_int1, fun Z H d v R Q hs w q k => by
  cases d with
  | int i => rw [w.intE]; exact .inl ⟨i, rfl, k.frz hs (.int _) q⟩
  | bl b => rw [w.blE]; exact .inr ⟨b, rfl, k.frz hs (.int _) q⟩
  | _ => exact q.elim⟩
def oAbs : D → (T → Prop) → Prop := fun d R => ∃ i, d = .int i ∧ R (.frz (.int (if i < 0 then -i else i)))
theorem cv_abs : CallV1 X (.builtin "abs") oAbs := ⟨_, call_abs, fun Z H d v R Q hs w ⟨i, e, q⟩ k => by subst e; rw [w.intE]; exact ⟨i, rfl, k.frz hs (.int _) q⟩⟩
def oStr1 : D → (T → Prop) → Prop := fun d R => match d with
  | .int i => i.natAbs.log2 < 1920 ∧ R (.frz (.str (toString i)))
  | _ => False
def oListOf : D → (T → Prop) → Prop := fun d R => match d with
  | .lst ds => R (.bl ds)
  | .tup ds => R (.bl ds)
  | .scr ns => R (.bl (ns.map D.int))
  | _ => False
theorem cv_list : CallV1 X (.type "list") oListOf := ⟨_, call_list_of, fun Z H d v R Q hs w q k => by
  cases d with
  | lst ds =>
    obtain ⟨a, vs, rfl, h1, r⟩ := w.lstE hs
    exact ⟨_, vs, rfl, .inl (.inl (.inl h1)), k.lst hs r q⟩
  | tup ds =>
    obtain ⟨a, vs, rfl, h1, r⟩ := w.tupE hs
    exact ⟨_, vs, rfl, .inr h1, k.lst hs r q⟩
  | scr ns =>
    obtain ⟨a, rfl, h1⟩ := w.scrE hs
    exact ⟨_, _, rfl, .inl h1, k.lst hs (.ofInts _) q⟩
  | _ => exact q.elim⟩
def oTupOf : D → (T → Prop) → Prop := fun d R => match d with
  | .lst ds => R (.frz (.tup ds))
  | .tup ds => R (.frz (.tup ds))
  | _ => False
theorem cv_tup : CallV1 X (.type "tuple") oTupOf := ⟨_, call_tuple_of, fun Z H d v R Q hs w q k => by
  cases d with
  | lst ds =>
    obtain ⟨a, vs, rfl, h1, r⟩ := w.lstE hs
    exact ⟨_, vs, rfl, .inl ⟨.inl (.inl h1), k.tup hs r q⟩⟩
  | tup ds =>
    obtain ⟨a, vs, rfl, h1, r⟩ := w.tupZ
    exact ⟨_, vs, rfl, .inr ⟨SqT.mono (rd_same hs) h1, k.frz hs (.tup h1 r) q⟩⟩
  | _ => exact q.elim⟩
def oAll : D → (T → Prop) → Prop := fun d R => ∃ bs : List Bool, d = .lst (bs.map D.bl) ∧ R (.frz (.bl (bs.all id)))
def oAny : D → (T → Prop) → Prop := fun d R => ∃ bs : List Bool, d = .lst (bs.map D.bl) ∧ R (.frz (.bl (bs.any id)))
theorem cv_all (hc : X.calm = true) : CallV1 X (.builtin "all") oAll := ⟨_, cr_all hc, fun Z H d v R Q hs w ⟨bs, e, q⟩ k => by
  subst e
  obtain ⟨a, vs, rfl, h1, r⟩ := w.lstE hs
  rw [Rzs.bls r] at h1
  exact ⟨a, bs, rfl, .inl (.inl h1), k.frz hs (.bl _) q⟩⟩
theorem cv_any (hc : X.calm = true) : CallV1 X (.builtin "any") oAny := ⟨_, cr_any hc, fun Z H d v R Q hs w ⟨bs, e, q⟩ k => by
  subst e
  obtain ⟨a, vs, rfl, h1, r⟩ := w.lstE hs
  rw [Rzs.bls r] at h1
  exact ⟨a, bs, rfl, .inl (.inl h1), k.frz hs (.bl _) q⟩⟩
/-! ### a text many times -/
def rMulS : R2 := fun x y H Q => ∃ s n, x = .str s ∧ y = .int n ∧ MulOk s n ∧ Q (.str (Txt.mul s n)) H
theorem op_mulS : OpR X (binaryOp .Mult) rMulS := by
  intro pins s σ H x y v u Q I rx ry ⟨a, n, e1, e2, hk, q⟩
  subst e1; subst e2
  obtain ⟨t, rfl⟩ := rx
  obtain ⟨t', rfl⟩ := ry
  exact SB.mul hk fun t' k => ⟨.str _, H, I.tok _, ⟨_, rfl⟩, q⟩
def oMulS : D → D → (T → Prop) → Prop := fun d e R => ∃ s n, d = .str s ∧ e = .int n ∧ MulOk s n ∧ PyData.strOk (Txt.mul s n) = true ∧ R (.frz (.str (Txt.mul s n)))
theorem ov_mulS : OpV X (binaryOp .Mult) oMulS := ⟨_, op_mulS, fun Z H d v d' v' R Q hs w w' ⟨s, n, e1, e2, hk, ok, q⟩ k => by
  subst e1; subst e2
  rw [w.strE.1, w'.intE]
  exact ⟨s, n, rfl, rfl, hk, k.frz hs (.str _ ok) q⟩⟩
/-! ### a op b op c -/
def mChain (o o' : D → D → (T → Prop) → Prop) (ma mb mc : ME) : ME := fun Γ R XR => ma Γ (fun ta Γ1 => mb Γ1 (fun tb Γ2 => o ta.toD tb.toD fun t => ∃ k, t = .frz (.bl k) ∧ if k = true then mc Γ2 (fun tc Γ3 => o' tb.toD tc.toD fun t => R t Γ3) XR else R (.frz (.bl false)) Γ2) XR) XR
theorem snd_chain {r r' : R2} {o o' : D → D → (T → Prop) → Prop} {ta tb tc : TE} {ma mb mc : ME} (h2 : ∀ Z H d v d' v' R Q, Same Z H → Vw X.K Z H d v → Vw X.K Z H d' v' → o d d' R → PK X.K Z H R Q → r v v' H Q)
    (h2' : ∀ Z H d v d' v' R Q, Same Z H → Vw X.K Z H d v → Vw X.K Z H d' v' → o' d d' R → PK X.K Z H R Q → r' v v' H Q) (sa : Snd X.K W ta ma) (sb : Snd X.K W tb mb) (sc : Snd X.K W tc mc) : Snd X.K W (tChain r r' ta tb tc) (mChain o o' ma mb mc) := fun Z H σ Γ F R XR Q hs rs m k x => by
  refine snd_frz sa (R := fun da Γ1 => mb Γ1 (fun tb Γ2 => o da tb.toD fun t => ∃ k, t = .frz (.bl k) ∧ if k = true then mc Γ2 (fun tc Γ3 => o' tb.toD tc.toD fun t => R t Γ3) XR else R (.frz (.bl false)) Γ2) XR) hs rs m (fun Z1 H1 Γ1 F1 da va s1 e1 r1 ra q1 => ?_) x
  refine snd_frz sb (R := fun db Γ2 => o da db fun t => ∃ k, t = .frz (.bl k) ∧ if k = true then mc Γ2 (fun tc Γ3 => o' db tc.toD fun t => R t Γ3) XR else R (.frz (.bl false)) Γ2) s1 r1 q1 (fun Z2 H2 Γ2 F2 db vb s2 e2 r2 rb q2 => ?_) (x.step0 e1)
  refine h2 Z2 H2 da va db vb _ _ s2 (.rz (ra.mono e2.z)) (.rz rb) q2 (fun Z3 H3 t u G st hG rp qq => ?_)
  obtain ⟨b, et, qq⟩ := qq
  subst et
  cases rp with
  | frz rz =>
    cases rz
    refine ⟨b, rfl, ?_⟩
    have e3 : Ext Z2 H2 F2 Z3 H3 F2 := by simpa using st.ext (F := F2) (G := []) (fun x hx => absurd hx (by simp))
    have e13 := (e1.trans e2).trans e3
    have r3 := st.slots r2
    cases b with
    | false => exact (k.step e13).pure st.zh r3 (.bl _) qq
    | true =>
      refine snd_frz sc (R := fun dc Γ3 => o' db dc fun t => R t Γ3) st.zh r3 qq (fun Z4 H4 Γ4 F4 dc vc s4 e4 r4 rc q4 => ?_) (x.step0 e13)
      exact h2' Z4 H4 db vb dc vc _ Q s4 (.rz (rb.mono (e3.z.trans e4.z))) (.rz rc) q4 (k.ofPE (e13.trans e4) r4)
theorem ve_chain {op op' : CmpOp} {o o' : D → D → (T → Prop) → Prop} {a b c : Expr} {ma mb mc : ME} {pos : Pos} (h : OpV X (compareOp op) o) (h' : OpV X (compareOp op') o') (ha : VE X W a ma) (hb : VE X W b mb) (hc : VE X W c mc)
    (hm : lastMarks [op, op'] [b, c] = false := by with_unfolding_all rfl) : VE X W (.Compare a [op, op'] [b, c] pos) (mChain o o' ma mb mc) := by
  obtain ⟨r, h1, h2⟩ := h
  obtain ⟨r', h1', h2'⟩ := h'
  obtain ⟨ta, pa, sa⟩ := ha.ex
  obtain ⟨tb, pb, sb⟩ := hb.ex
  obtain ⟨tc, pc, sc⟩ := hc.ex
  exact ⟨_, pe_chain h1 h1' pa pb pc hm, snd_chain h2 h2' sa sb sc⟩
theorem vt_chain {op op' : CmpOp} {o o' : D → D → (T → Prop) → Prop} {a b c : Expr} {ma mb mc : ME} {pos : Pos} (h : OpV X (compareOp op) o) (h' : OpV X (compareOp op') o') (ha : VE X W a ma) (hb : VE X W b mb) (hc : VE X W c mc)
    (hm : lastMarks [op, op'] [b, c] = false := by with_unfolding_all rfl) : VT X W (.Compare a [op, op'] [b, c] pos) (mTst (mChain o o' ma mb mc)) := by
  obtain ⟨r, h1, h2⟩ := h
  obtain ⟨r', h1', h2'⟩ := h'
  obtain ⟨ta, pa, sa⟩ := ha.ex
  obtain ⟨tb, pb, sb⟩ := hb.ex
  obtain ⟨tc, pc, sc⟩ := hc.ex
  exact ⟨_, pt_chain h1 h1' pa pb pc hm, snd_tst (snd_chain h2 h2' sa sb sc)⟩
end
end VL
set_option Elab.async false
set_option linter.all false
set_option autoImplicit false
set_option maxRecDepth 100000
set_option maxHeartbeats 4000000
/-! VL13: own exceptions whose __init__ calls super().__init__. -/
namespace VL
open PySem PySem.Spec PySem.Calls L2
open PyProof.Rows hiding St

/-! ### what is known of such an __init__ -/
structure SupS (N ps : List Str) (sc : Scope) : Prop where
  kind : sc.kind = .function
  co : sc.isCoroutine = false
  gen : sc.isGenerator = false
  nd : N.Nodup
  pre : N.take ps.length = ps
  par : ∀ x ∈ ps, sc.names.lookup x = some .local
  nocell : ∀ y ∈ sc.names, y.2 ≠ .cell
  free : ∀ y ∈ sc.names, y.2 = .free → y.1 = "__class__"
  cls : sc.names.lookup ("__class__" : Str) = some .free
  sup : sc.names.lookup ("super" : Str) = some .globalImplicit
/-- f, the __init__ of the class at C -/
structure SupF (P : Program) (K : PySem.W.Frag) (mg : Str → Option Value) (qual : Str) (params : Arguments) (body : List Stmt) (scope : Scope) (C f : Addr) (fd : FuncData) : Prop where
  ex : ∃ (oc : Value) (od : Option Addr) (dV kV doc pm : Value) (an : Option Addr) (cda cc : Addr) (ct : Value) (osl : Array (Option Value)), fd = PySem.W.ksFn "__init__" qual params body scope dV kV doc pm an (.ref cda) ct cc ∧ K.lookup f = some ⟨oc, od, .func fd, osl⟩ ∧
    PySem.W.codeIn K (.ref cda) qual = true ∧ (∃ (ccl : Value) (cdd : Option Addr) (us : Array Value) (ccs : Array (Option Value)) (file : Str) (tf : Tok), K.lookup cda = some ⟨ccl, cdd, .fields us, ccs⟩ ∧ us[2]? = some (.str file tf) ∧ ((P.main.file : Str) == file) = true) ∧
    ∃ (cl : Value) (cld : Option Addr) (csl : Array (Option Value)), K.lookup cc = some ⟨cl, cld, .cell (some (.ref C)), csl⟩
  oex : OexC K C
  sup : PySem.W.ks_superIn K C C "__init__" = some (some (.builtin "ValueError.__init__"))
  any : PySem.W.nsIn K PySem.cStatics "thirdparty.any" = some none
  ve : PySem.W.subIn K (.ref C) (.type "ValueError") = some true
  mro : PySem.W.mroIn K C (.ref C) = some true
  mg : mg ("super" : Str) = none
  top : (P.main.scope.names.lookup ("super" : Str)).isSome = false
abbrev sEnv (qual : Str) (scope : Scope) (L f cda cc : Addr) : Env := PySem.W.ksEnv qual scope L f (.ref cda) cc
abbrev cxS (CX : CXT) (P : Program) (w : World) (K : PySem.W.Frag) (mg : Str → Option Value) (base : Heap) (N : List Str) (qual : Str) (scope : Scope) (f cda cc : Addr) (A : Around) (outer : List Env) (s : Shared) (H : Hp) (E : XK) : Cx where
  prog := P
  w := w
  K := K
  mg := mg
  base := base
  A := A.deeper (sEnv qual scope s.heap.objs.size f cda cc)
  N := N
  s_0 := s
  H_0 := H
  env := sEnv qual scope s.heap.objs.size f cda cc
  outer := outer
  stack := sEnv qual scope s.heap.objs.size f cda cc :: outer
  ex := []
  calm := true
  fn := fun _ => false
  pn := []
  xe := fun e s' => wpAny (model P w) (A.deeper (sEnv qual scope s.heap.objs.size f cda cc)) (leaving (sEnv qual scope s.heap.objs.size f cda cc) e) (fun _ s'' => CX outer H s E e s'') (fun e' s'' => CX outer H s E e' s'') s'
section
variable {CX : CXT} {P : Program} {w : World} {K : PySem.W.Frag} {mg : Str → Option Value} {base : Heap} {N ps : List Str} {qual : Str} {scope : Scope} {f cda cc C : Addr} {A : Around} {outer : List Env} {s : Shared} {H : Hp} {E : XK} {us : List Value} {vs : List V}
theorem inv_startS {g₁ : Heap} {tk : Nat} (S : SupS N ps scope) (hd : A.handled = none) (e0 : Env0 P w K mg base A outer s H) (hl : vs.length = ps.length) (r : Vals vs us) (hcc : ∃ (cl : Value) (cld : Option Addr) (csl : Array (Option Value)), K.lookup cc = some ⟨cl, cld, .cell (some (.ref C)), csl⟩)
    (hns : g₁.Ns s.heap.objs.size fun y => (ps.zip us).reverse.lookup y) (kp : ∀ b o, s.heap.get? b = some o → g₁.get? b = some o) : Inv (cxS CX P w K mg base N qual scope f cda cc A outer s H E) [] (L2.start N vs) H { s with heap := g₁, toks := tk } := by
  obtain ⟨cl, cld, csl, hcc⟩ := hcc
  have hbase : base.get? cc = some ⟨cl, cld, .cell (some (.ref C)), csl⟩ := e0.mod.kin _ _ hcc
  obtain ⟨hsc, hHc⟩ := e0.bs _ _ hbase
  have hcell : ∀ {y : Str} {c : Addr}, ([(("__class__" : Str), cc)] : List (Str × Addr)).lookup y = some c → y = "__class__" ∧ c = cc := fun {y c} e => by
    rw [List.lookup_cons] at e
    cases q : y == ("__class__" : Str) with
    | true => rw [q] at e; exact ⟨beq_iff_eq.mp q, (Option.some.inj e).symm⟩
    | false => rw [q] at e; simp at e
  have hpl : ps.length ≤ N.length := by have := congrArg List.length S.pre; rw [List.length_take] at this; omega
  have noA : ∀ b : Addr, b ∉ (cxS CX P w K mg base N qual scope f cda cc A outer s H E).ex := fun b z => absurd (show b ∈ ([] : List Addr) from z) (by simp)
  refine ⟨⟨e0.mod, S.kind, rfl, rfl, Nat.le_refl _, fun x y c e1 e2 => ?_, fun y hy => ?_, fun y c z _ => Bool.noConfusion (show false = true from z), fun _ => hd, Around.frames_deeper e0.frames, .inr ⟨rfl, rfl⟩, fun b z => absurd z (noA b), e0.bs, e0.bsz, fun b _ _ => noA b, fun b z => absurd z (noA b), e0.funs, e0.frf⟩,
    rfl, e0.bare, Un.kept kp, ⟨_, hns, fun i y v e1 e2 e3 => ?_⟩, fun y c e => ?_, e0.hok.fresh (Nat.le_refl _), fun y c e => ?_, fun q hq => absurd (show q ∈ ([] : List (Addr × Obj)) ++ [] from hq) (by simp), e0.hok.kept kp, ?_⟩
  · rw [(hcell e1).1, (hcell e2).1]
  · have hy : scope.names.lookup y = some .cell ∨ scope.names.lookup y = some .free := hy
    rcases hy with hy | hy
    · exact absurd rfl (S.nocell _ (PySem.mem_of_lookup hy))
    · have ey : y = "__class__" := S.free _ (PySem.mem_of_lookup hy) rfl
      subst ey
      exact ⟨cc, by show List.lookup _ _ = _; rw [List.lookup_cons]; rfl⟩
  · have e1 : N[i]? = some y := e1
    unfold L2.start at e2
    have hi : i < vs.length := by
      by_cases hi : i < vs.length
      · exact hi
      · rw [List.getElem?_append_right (by rw [List.length_map]; omega), List.getElem?_replicate] at e2
        split at e2 <;> cases e2
    have hq : ps[i]? = some y := by
      rw [← S.pre, List.getElem?_take_of_lt (by omega)]
      exact e1
    rw [List.getElem?_append_left (by rw [List.length_map]; omega), List.getElem?_map] at e2
    have ha : vs[i]? = some v := by
      cases e : vs[i]? with
      | none => rw [e] at e2; cases e2
      | some a => rw [e] at e2; cases e2; rfl
    obtain ⟨u, hu, rv⟩ := r.get ha
    have ndP : ps.Nodup := by rw [← S.pre]; exact S.nd.sublist (List.take_sublist _ _)
    exact ⟨u, rv, .inl ⟨S.par y (List.mem_of_getElem? hq), NdefX.zip_look ndP hq hu⟩⟩
  · obtain ⟨_, ec⟩ := hcell e
    subst ec
    exact ⟨_, _, kp _ _ hsc, rfl⟩
  · obtain ⟨_, ec⟩ := hcell e
    subst ec
    exact hHc
  · unfold L2.start
    show _ = N.length
    rw [List.length_append, List.length_map, List.length_replicate]
    omega
end
/-! ### super().__init__(e, ..) -/
theorem boot_super : bootBuiltins ("super" : Str) = some (.type "super") := by first | exact PyProof.Rows.Boot.«super» | kernel_rfl
/-- the wrapper called at an exception being made -/
theorem call_mw {prog : Program} {w : World} {A : Around} {E : Value → Shared → Prop} {hp : Heap} {g : Array GenState} {d : Drawn} {t : Nat} {os : OsState} {nm q : Str} {C N : Addr} {bs bm : List Value} {hdct : Bool} {sn : List Str} {sub : List Value} {ab : Bool} {col : Option Bool} {dd : Option Addr} {k0 k1 k2 k3 k5 : Option Value}
    {u e t0 : Addr} {rest : List Value} {Q : Value → Shared → Prop} (hC : hp.get? C = some (excClassObj nm q C N bs bm hdct sn sub ab col dd k0 k1 k2 k3 k5 "ValueError.__new__")) (he : hp.get? e = some (PySem.HandSPX.excO C t0)) (hu : hp.get? u = some (PySem.W.kxs_mw "ValueError.__init__" e)) (hrest : rest.length ≤ sizeLine)
    (hq : ∀ h' t1, (∀ b o, b ≠ e → hp.get? b = some o → h'.get? b = some o) → h'.get? e = some (PySem.HandSPX.excO C t1) → Q .none ⟨h', g, d, t, os⟩) : wpAny (model prog w) A (call (.ref u) rest) Q E ⟨hp, g, d, t, os⟩ := by
  refine wpAny_call (codeAny_of_tree ?_)
  show wpAny _ A.in1 (callAny (.ref u) ⟨rest, []⟩) _ _ _
  unfold callAny
  refine wpAny_bind (wpAny_load hu ?_)
  dsimp only [PySem.W.kxs_mw]
  rw [if_pos (show (Value.type "method-wrapper" == Value.type "method" || Value.type "method-wrapper" == Value.type "builtin_function_or_method" || Value.type "method-wrapper" == Value.type "method-wrapper") = true by decide)]
  refine PySem.W.KFB.if_so (by decide) ?_
  refine wpAny_bind (PySem.W.check_bound_init F.excBase_ValueError.toExcCallFacts hC he rfl ?_)
  refine wpAny_bind (wpAny_pure (wpAny_pure ?_))
  refine ⟨PySem.plainId_quiet F.excBase_ValueError.init.plain _, codeAny_builtin F.excBase_ValueError.initEntry ?_⟩
  exact PySem.W.exc_init_tree (cls := .ref C) (t0 := t0) (dv := none) (c2 := .none) (c3 := .none) (b4 := .bool false) he hrest fun h' k e' t' => hq h' _ k e'
section
variable {CX : CXT} {P : Program} {w : World} {K : PySem.W.Frag} {mg : Str → Option Value} {base : Heap} {N ps : List Str} {qual : Str} {params : Arguments} {body : List Stmt} {scope : Scope} {f cda cc C : Addr} {fd : FuncData} {A : Around} {outer : List Env} {s : Shared} {H : Hp} {E : XK} {us : List Value} {vs : List V}
theorem super_at {X : Cx} {oc : Value} {od : Option Addr} {dV kV doc pm ct : Value} {an : Option Addr} {osl : Array (Option Value)} {L : Addr} {e : Expr} {es : List Expr} {ta : TA} {p0 p1 p2 p3 p4 : Pos} {ar : Arg} {pins : List (Addr × Obj)} {s1 : Shared} {σ : St} {H1 : Hp} {a : Addr} {Q : Flow → Shared → Prop} {pl : Sem Bool}
    (eP : X.prog = P) (eK : X.K = K) (eV : X.env = sEnv qual scope L f cda cc) (em : X.mg = mg) (S : SupS X.N ps scope) (F : SupF P K mg qual params body scope C f fd)
    (efd : fd = PySem.W.ksFn "__init__" qual params body scope dV kV doc pm an (.ref cda) ct cc) (lk : K.lookup f = some ⟨oc, od, .func fd, osl⟩)
    (hcode : ∃ (ccl : Value) (cdd : Option Addr) (us : Array Value) (ccs : Array (Option Value)) (file : Str) (tf : Tok), K.lookup cda = some ⟨ccl, cdd, .fields us, ccs⟩ ∧ us[2]? = some (.str file tf) ∧ ((P.main.file : Str) == file) = true)
    (hcell : ∃ (cl : Value) (cld : Option Addr) (csl : Array (Option Value)), K.lookup cc = some ⟨cl, cld, .cell (some (.ref C)), csl⟩)
    (hp : (params.posonlyargs ++ params.args).head? = some ar) (h0 : X.N[0]? = some ar.arg) (hl0 : scope.names.lookup ar.arg = some .local) (I : Inv X pins σ H1 s1) (hσ : σ[0]? = some (some (.ref a))) (ha : H1 a = some (exo a C none)) (pa : PA X (e :: es) ta)
    (hw : ta σ H1 fun vs H2 => H2 a = some (exo a C none) ∧ vs.length ≤ 1000 ∧ ∀ s2, Inv X pins σ H2 s2 → Q .next s2)
    (he : starEach (e :: es) X.env = (false, eval e X.env) :: starEach es X.env) (hpl : (backTo p3 (starEach es X.env)).any (·.1) = false)
    (hc : eval (.Call (.Attribute (.Call (.Name "super" p0) [] [] p1) "__init__" p2) (e :: es) [] p3) X.env = (do
      let ov ← attributeBase (.Call (.Name "super" p0) [] [] p1) "__init__" X.env (eval (.Call (.Name "super" p0) [] [] p1) X.env)
      standAt p2.atName
      let (f, first) ← holding [ov] (getMethod ov "__init__" pl)
      callWith p3 f first (backTo p3 (starEach (e :: es) X.env)) []))
    (hi : interactive X.env = false) (hs : swapsWith (.Call (.Attribute (.Call (.Name "super" p0) [] [] p1) "__init__" p2) (e :: es) [] p3) none p4.line X.env = pure false) :
    _root_.PySem.wpAt (model X.prog X.w) X.A (.func body X.env) (exec (.Expr (.Call (.Attribute (.Call (.Name "super" p0) [] [] p1) "__init__" p2) (e :: es) [] p3) p4) X.env) Q X.xe s1 := by
  subst eP eK em
  have KX : X.K.In s1.heap := I.kIn
  obtain ⟨ccl, cdd, usC, ccs, file, tf, hcda, hu2, hfile⟩ := hcode
  obtain ⟨cl, cld, csl, hcc⟩ := hcell
  obtain ⟨mL, hns, hlk⟩ := id I.loc
  obtain ⟨nm, q, N', bs, bm, sn, sub, ab, col, dd, k0, k1, k2, k3, k5, hC, hbm⟩ := F.oex.cls
  have hcl : PySem.W.clsIn X.K C = some { name := nm, bases := bs, mro := .ref C :: bm, ns := N', qualname := q, hasDict := true, slotNames := sn, subclasses := sub, abstract := ab, collection := col, hasDel := false } := by unfold PySem.W.clsIn; rw [hC] <;> rfl
  have hvis : Vis X.env.scope ar.arg := .inl (by rw [eV]; exact hl0)
  obtain ⟨u0, ru0, hu0⟩ := hlk 0 ar.arg _ h0 hσ hvis
  obtain rfl : u0 = Value.ref a := ru0
  have hself : mL ar.arg = some (.ref a) := by
    rcases hu0 with ⟨_, h⟩ | ⟨h, _⟩
    · exact h
    · rw [eV] at h
      have h : scope.names.lookup ar.arg = some .cell ∨ scope.names.lookup ar.arg = some .free := h
      rcases h with h | h <;> (rw [hl0] at h; cases h)
  obtain ⟨t1, hoe⟩ := exo_at I.hok ha
  have hOD := KX _ _ hC
  refine PySem.ks_wpAt_Expr_any ?_ hi hs
  refine PySem.ks_wpAt_MethodCall (pl := pl) ?_ hc
  have key : ∀ {Q' : Value → Shared → Prop}, (∀ so h', h'.get? so = some (PySem.W.ks_superObj C a C) → (∀ b o, s1.heap.get? b = some o → h'.get? b = some o) → Q' (.ref so) { s1 with heap := h' }) →
      _root_.PySem.wpAt (model X.prog X.w) X.A (.func body X.env) (attributeBase (.Call (.Name "super" p0) [] [] p1) "__init__" X.env (eval (.Call (.Name "super" p0) [] [] p1) X.env)) Q' X.xe s1 := by
    intro Q' hQ
    refine PySem.ks_wpAt_super_base (f := f) (cc := cda) (ar := ar) (by rw [eV]; exact S.sup) (by rw [eV]; exact S.cls) (by decide) (by rw [eV]) (KX _ _ lk) rfl (by rw [efd]; exact hp) (by rw [eV]) (KX _ _ hcda) rfl hu2 hfile F.top ?_
    obtain ⟨mb, b1, b2⟩ := I.mod.blt
    refine PySem.W.ks_loadName_global (by rw [eV]; exact S.kind) (by rw [eV]; exact S.sup) (Calls.loadGlobal_builtin (by rw [I.ok.glob]; exact I.mod.glob.keeps I.bk) F.mg (by rw [I.ok.blt]; exact b1.keeps I.bk) ((b2 _ (by decide)).trans boot_super) ⟨rfl, ?_⟩)
    refine wpAny_loadName_free (by rw [eV]; exact S.kind) (by rw [eV]; exact S.cls) (c := cc) (by rw [eV]; show List.lookup _ _ = _; rw [List.lookup_cons]; rfl) ⟨_, KX _ _ hcc, rfl⟩ ?_
    refine wpAny_loadName_local (by rw [eV]; exact S.kind) (by rw [eV]; exact hl0) hns hself ?_
    obtain ⟨hh, gg, dr, tt, oo⟩ := s1
    refine PySem.ks_wpAny_isType_cls hOD rfl ⟨rfl, ?_⟩
    refine PySem.ks_wpAny_call_super hOD rfl hoe rfl (fun c z => by cases z) (PySem.W.looks_mroIn KX F.mro) (fun h' e1 k => hQ _ h' e1 k)
  refine key fun so h' hso k => ?_
  have I1 : Inv X pins σ H1 { s1 with heap := h' } := I.kept (t' := s1.toks) k
  obtain ⟨hh, gg, dr, tt, oo⟩ := s1
  have KX1 : X.K.In h' := I1.kIn
  obtain ⟨t2, hoe2⟩ := exo_at I1.hok ha
  have LT : PySem.W.Looks (model X.prog X.w) h' (typeOf (.ref a)) (.ref C) := fun A Q E s k q => wpAny_typeOf_ref (k _ _ hoe2) q
  have haC : a ≠ C := fun z => by
    have e1 := KX1 _ _ hC
    rw [← z] at e1
    have e2 : h'.get? a = some _ := hoe2
    rw [e2] at e1
    cases e1
  refine PySem.W.kxs_getMethod PySem.W.kxs_ValueError hso (PySem.W.looks_opaque KX1 F.any) (l₀ := .ref C :: bm) (fun A Q E s k q => wpAny_bind ((PySem.W.looks_clsIn KX1 hcl) A _ E s k (wpAny_pure q))) rfl KX1 ?_ (LT.andThen (PySem.W.looks_subIn KX1 F.ve)) haC (by decide) ?_
  · have hsup := F.sup
    unfold PySem.W.ks_superIn at hsup
    rw [hcl] at hsup
    exact hsup
  have I2 : Inv X pins σ H1 ⟨h'.push (PySem.W.kxs_mw "ValueError.__init__" a), gg, dr, tt + 1, oo⟩ := I1.kept (t' := tt + 1) fun b o e => Heap.get?_push_of_some _ e
  have hmw : (h'.push (PySem.W.kxs_mw "ValueError.__init__" a)).get? h'.objs.size = some (PySem.W.kxs_mw "ValueError.__init__" a) := Heap.get?_push_at rfl rfl
  have hsb : ∃ o, h'.objs.size = o := ⟨_, rfl⟩
  show wpAny _ _ (callWith p3 (.ref h'.objs.size) [] (backTo p3 (starEach (e :: es) X.env)) []) _ _ _
  have he2 := he
  refine PySem.W.kxs_callWith (i := "ValueError.__init__") (x := a) ?_ ?_
  · rw [he]
    show (false || (backTo p3 (starEach es X.env)).any (·.1)) = false
    rw [hpl]
    rfl
  · have hpin : ∃ pins2 : List (Addr × Obj), pins2 = pins ++ [(h'.objs.size, PySem.W.kxs_mw "ValueError.__init__" a)] := ⟨_, rfl⟩
    have I3 : Inv X (pins ++ [(h'.objs.size, PySem.W.kxs_mw "ValueError.__init__" a)]) σ H1 ⟨h'.push (PySem.W.kxs_mw "ValueError.__init__" a), gg, dr, tt + 1, oo⟩ := I2.pins_of fun p hp => by
      rcases List.mem_append.mp hp with hp | hp
      · exact I2.pin p (List.mem_append_right _ hp)
      · rw [List.mem_singleton.mp hp]
        refine ⟨hmw, I1.hok.fresh (Nat.le_refl _), Nat.ne_of_gt I1.lt, I1.nofs (Nat.le_refl _), fun v z => by cases z⟩
    have run := pa.run p3 (pins ++ [(h'.objs.size, PySem.W.kxs_mw "ValueError.__init__" a)]) ⟨h'.push (PySem.W.kxs_mw "ValueError.__init__" a), gg, dr, tt + 1, oo⟩ σ H1 _ I3 hw
    rw [he] at run ⊢
    refine evalArgs_plain (thn run fun us2 s3 ⟨vs2, H2, I4, r4, ha4, hl4, q4⟩ => ⟨?_, ?_⟩)
    · exact (I4.pin (h'.objs.size, PySem.W.kxs_mw "ValueError.__init__" a) (List.mem_append_right _ (by simp))).1
    · have hu4 := (I4.pin (h'.objs.size, PySem.W.kxs_mw "ValueError.__init__" a) (List.mem_append_right _ (by simp))).1
      obtain ⟨t4, hoe4⟩ := exo_at I4.hok ha4
      obtain ⟨h4, g4, d4, t4', o4⟩ := s3
      refine call_mw (I4.kIn _ _ hC) hoe4 hu4 (by show us2.length ≤ sizeLine; rw [← r4.length, sizeLine_eq]; omega) fun h5 t5 k5 he5 => ?_
      have I5 : Inv X (pins ++ [(h'.objs.size, PySem.W.kxs_mw "ValueError.__init__" a)]) σ (upd H2 a (exo a C none)) ⟨h5, g4, d4, t4', o4⟩ := I4.write (t' := t4') (x := a) (e := a) (o := exo a C none) (by rw [ha4]; exact True.intro) (.inl rfl) k5 ⟨_, he5⟩ (exo_ok he5)
      have eu : upd H2 a (exo a C none) = H2 := by
        funext b
        by_cases hb : b = a
        · rw [hb, upd_same, ha4]
        · rw [upd_ne hb]
      rw [eu] at I5
      exact q4 _ I5.unpinned
end
end VL
set_option Elab.async false
set_option linter.all false
set_option autoImplicit false
set_option maxRecDepth 100000
set_option maxHeartbeats 4000000
/-! VL14: raise of own exceptions. -/
namespace VL
open PySem PySem.Spec PySem.Calls L2
open PyProof.Rows hiding St

/-- what such an __init__ promises: of the arguments' data, the fields -/
def spX (K : PySem.W.Frag) (n : Nat) (C : Addr) (ok : List D → (List (Str × D) → Prop) → Prop) : Sp := fun vs H Q _ => ∃ Z a ws ds R, vs = .ref a :: ws ∧ ws.length = n ∧ H a = some (exo a C none) ∧ Z a = none ∧ Same Z H ∧ Rzs K Z ds ws ∧ ok ds R ∧
  ∀ Z2 H2 d fs fs', Same Z2 H2 → Same Z Z2 → (∀ b, Z2 b ≠ none → Z b ≠ none ∨ H b = none) → (∀ b o, b ≠ a → H b = some o → H2 b = some o) → H2 a = some (exo a C (some d)) → H2 d = some (exd d fs') → H d = none → Z2 d = none → Z2 a = none →
    fs'.map (·.1) = fs.map (·.1) → Rzs K Z2 (fs.map (·.2)) (fs'.map (·.2)) → R fs → Q .non H2
/-- the arguments of super().__init__, then self.f = e -/
def okX (N : List Str) (g : MA) (f : Str) (me : ME) : List D → (List (Str × D) → Prop) → Prop := fun ds R => g (none :: (ds.map fun d => some (T.frz d)) ++ List.replicate (N.length - (ds.length + 1)) none) (fun ts Γ1 => me Γ1 (fun t _ => R [(f, t.toD)]) noX) noX
theorem rsl_frz {K : PySem.W.Frag} {Z H : Hp} (n : Nat) : ∀ {ds : List D} {vs : List V}, Rzs K Z ds vs → Rsl K Z H ((ds.map fun d => some (T.frz d)) ++ List.replicate n none) (vs.map some ++ List.replicate n none) []
  | [], [], .nil => by
    have key : ∀ n, Rsl K Z H (List.replicate n none) (List.replicate n none) [] := fun n => by
      induction n with
      | zero => exact .nil
      | succ n ih => exact .gap ih
    exact key n
  | d :: ds, v :: vs, .cons h r => by
    have ih : Rsl K Z H ((ds.map fun d => some (T.frz d)) ++ List.replicate n none) (vs.map some ++ List.replicate n none) [] := rsl_frz n r
    exact Rsl.has (F := []) (G := []) (.frz h) ih (fun x hx => absurd hx (by simp))
section
variable {CX : CXT} {P : Program} {w : World} {K : PySem.W.Frag} {mg : Str → Option Value} {base : Heap} {N ps : List Str} {qual : Str} {params : Arguments} {scope : Scope} {f C : Addr} {fd : FuncData} {A : Around} {outer : List Env} {s : Shared} {H : Hp} {E : XK} {us : List Value} {vs : List V}
theorem fn_sup {k n : Nat} {e ev : Expr} {es : List Expr} {p0 p1 p2 p3 p4 q1 q2 q3 : Pos} {ar : Arg} {a0 : Str} {fld : Str} {g : MA} {me : ME} (S : SupS N ps scope) (F : SupF P K mg qual params (.Expr (.Call (.Attribute (.Call (.Name "super" p0) [] [] p1) "__init__" p2) (e :: es) [] p3) p4 :: [.Assign [.Attribute (.Name a0 q1) fld q2] ev q3]) scope C f fd)
    (hp : (params.posonlyargs ++ params.args).head? = some ar) (har : ar.arg = a0) (h0 : N[0]? = some a0) (hl0 : scope.names.lookup a0 = some .local) (hnp : ps.length = n + 1) (hno : PySem.W.findIn K (.ref C) fld = some none)
    {pl : Addr → Addr → Addr → Sem Bool}
    (body : ∀ (cda cc : Addr) (A : Around) (outer : List Env) (s : Shared) (H : Hp) (E : XK), VA (cxS CX P w K mg base N qual scope f cda cc A outer s H E) noW (e :: es) g ∧ VE (cxS CX P w K mg base N qual scope f cda cc A outer s H E) noW ev me)
    (hd : (a0 == ("__debug__" : Str)) = false := by decide) (hcd : (a0 == ("__classdict__" : Str)) = false := by decide) (hes : es.length < 1000 := by decide)
    (tx1 : ∀ (L cda cc : Addr), starEach (e :: es) (sEnv qual scope L f cda cc) = (false, eval e (sEnv qual scope L f cda cc)) :: starEach es (sEnv qual scope L f cda cc) := by intros; rfl)
    (tx2 : ∀ (L cda cc : Addr), (backTo p3 (starEach es (sEnv qual scope L f cda cc))).any (·.1) = false := by intros; rfl) (tx3 : ∀ (L cda cc : Addr), interactive (sEnv qual scope L f cda cc) = false := by intros; rfl)
    (tx4 : ∀ (L cda cc : Addr), swapsWith (.Call (.Attribute (.Call (.Name "super" p0) [] [] p1) "__init__" p2) (e :: es) [] p3) none p4.line (sEnv qual scope L f cda cc) = pure false := by intros; rfl)
    (tx5 : ∀ (L cda cc : Addr), swapsWith ev (some (.Attribute (.Name a0 q1) fld q2)) q3.line (sEnv qual scope L f cda cc) = pure false := by intros; rfl)
    (tx6 : ∀ (L cda cc : Addr), eval (.Call (.Attribute (.Call (.Name "super" p0) [] [] p1) "__init__" p2) (e :: es) [] p3) (sEnv qual scope L f cda cc) = (do
        let ov ← attributeBase (.Call (.Name "super" p0) [] [] p1) "__init__" (sEnv qual scope L f cda cc) (eval (.Call (.Name "super" p0) [] [] p1) (sEnv qual scope L f cda cc))
        standAt p2.atName
        let (fn, first) ← holding [ov] (getMethod ov "__init__" (pl L cda cc))
        callWith p3 fn first (backTo p3 (starEach (e :: es) (sEnv qual scope L f cda cc))) []) := by intros; rfl) :
    FnOk P w K mg base CX (k + 1) f fd ps (spX K n C (okX N g fld me)) := by
  subst har
  refine ⟨fun vs H Q E h => ?_, fun A outer s H args us vs Q E hr e0 hb r hsp => ?_⟩
  · obtain ⟨Z, a, ws, ds, R, rfl, hl, _⟩ := h
    rw [List.length_cons, hl, hnp]
  · obtain ⟨oc, od, dV, kV, doc, pm, an, cda, cc, ct, osl, efd, lk, hcd', hcode, hcell⟩ := F.ex
    have hvl : vs.length = ps.length := by
      obtain ⟨Z, a, ws, ds, R, rfl, hl, _⟩ := id hsp
      rw [List.length_cons, hl, hnp]
    have KX : K.In s.heap := e0.mod.kin.keeps fun b o e => (e0.bs b o e).1
    have lim : s.heap.NoLimit := e0.mod.nolimit.keeps fun b o e => (e0.bs b o e).1
    refine ks_codeAny_call_defAt (body := .Expr (.Call (.Attribute (.Call (.Name "super" p0) [] [] p1) "__init__" p2) (e :: es) [] p3) p4 :: [.Assign [.Attribute (.Name ar.arg q1) fld q2] ev q3]) hr.depth (KX _ _ lk) rfl lim (by rw [efd]; exact PySem.W.codeRec_of KX hcd') (by rw [efd]) hb (by rw [efd]; exact S.nocell) (by rw [efd]; exact fun ⟨x, u⟩ hy => S.par x (List.of_mem_zip hy).1) (fun g₁ hns kp => ?_) (by rw [efd]; exact S.co) (by rw [efd]; exact S.gen) (by rw [efd]; exact S.kind)
    have eenv : callEnv fd s.heap.objs.size f = sEnv qual scope s.heap.objs.size f cda cc := by rw [efd] <;> rfl
    rw [eenv]
    have I : Inv (cxS CX P w K mg base N qual scope f cda cc A outer s H E) [] (L2.start N vs) H { s with heap := g₁, toks := s.toks + (ps.zip us).length } := inv_startS S hr.hd e0 hvl r hcell hns kp
    obtain ⟨hva, hve⟩ := body cda cc A outer s H E
    obtain ⟨ta, pa, sa⟩ := hva.ex
    obtain ⟨te, pe, se⟩ := hve.ex
    have t1 := tx1 s.heap.objs.size cda cc
    have t2 := tx2 s.heap.objs.size cda cc
    have t3 := tx3 s.heap.objs.size cda cc
    have t4 := tx4 s.heap.objs.size cda cc
    have t5 := tx5 s.heap.objs.size cda cc
    have t6 := tx6 s.heap.objs.size cda cc
    obtain ⟨Z, a, ws, ds, R, rfl, hl, ha, za, hs, rz, ok, kQ⟩ := hsp
    have σ0 : (L2.start N (.ref a :: ws))[0]? = some (some (.ref a)) := rfl
    have es1 : L2.start N (.ref a :: ws) = some (.ref a) :: (ws.map some ++ List.replicate (N.length - (ds.length + 1)) none) := by
      unfold L2.start
      rw [List.length_cons, rz.length]
      rfl
    have rs : Rsl K Z H (none :: (ds.map fun d => some (T.frz d)) ++ List.replicate (N.length - (ds.length + 1)) none) (L2.start N (.ref a :: ws)) [] := by
      rw [es1]
      exact .gap (rsl_frz _ rz)
    have fin : ∀ (s' : Shared) (H' : Hp), Inv (cxS CX P w K mg base N qual scope f cda cc A outer s H E) [] (L2.start N (.ref a :: ws)) H' s' → Q .non H' → CE outer P w H s Q .none s' := fun s' H' J q => ⟨.non, H', J.os, J.bare, J.base, J.hok, rfl, q⟩
    have step := super_at (X := cxS CX P w K mg base N qual scope f cda cc A outer s H E) (pl := pl s.heap.objs.size cda cc) (p4 := p4) (a := a) (ta := ta)
      (Q := fun fl s' => match fl with
        | .next => _root_.PySem.wpAt (model P w) (A.deeper (sEnv qual scope s.heap.objs.size f cda cc)) (.func (.Expr (.Call (.Attribute (.Call (.Name "super" p0) [] [] p1) "__init__" p2) (e :: es) [] p3) p4 :: [.Assign [.Attribute (.Name ar.arg q1) fld q2] ev q3]) (sEnv qual scope s.heap.objs.size f cda cc)) (execs [.Assign [.Attribute (.Name ar.arg q1) fld q2] ev q3] (sEnv qual scope s.heap.objs.size f cda cc))
            (fun fl s' => CR CX outer P w H s Q E (.ok (.ret (match fl with | .ret v => v | _ => .none))) s') (cxS CX P w K mg base N qual scope f cda cc A outer s H E).xe s'
        | fl => CR CX outer P w H s Q E (.ok (.ret (match fl with | .ret v => v | _ => .none))) s') rfl rfl rfl rfl S F efd lk hcode hcell hp h0 hl0 I σ0 ha pa ?_ t1 t2 t6 t3 t4
    · exact ks_wpAt_execs_cons step
    · refine sa Z H _ _ [] _ noX _ hs rs ok (fun Z0 H1 Γ1 F1 d1 v1 G s0 e0' r0 p1' n1' l1 qq1 => ?_) xok_no
      have h00 : ∀ x ∈ G, Z0 x = none := fun x hx => (p1'.foot x hx).1
      have e1 := ext_frz e0' h00
      have s1 := frzH_below (F := G) s0
      have r1 := frz_slots r0 h00 n1'
      obtain ⟨Z1, hZ1⟩ : ∃ Z1, Z1 = frzH Z0 H1 G := ⟨_, rfl⟩
      rw [← hZ1] at e1 s1 r1
      have ha1 : H1 a = some (exo a C none) := (e1.fr a _ ha (by simp)).1
      have za1 : Z1 a = none := by
        cases z : Z1 a with
        | none => rfl
        | some u =>
          rcases e1.zn a (by rw [z]; simp) with h | h | h
          · exact absurd za h
          · exact absurd h (by simp)
          · rw [ha] at h; cases h
      refine ⟨ha1, by rw [l1, List.length_cons]; omega, fun s2 I2 => wpAt_of_wpAny ?_⟩
      have hvis : Vis (cxS CX P w K mg base N qual scope f cda cc A outer s H E).env.scope ar.arg := .inl hl0
      have ps1 := pss_one (ps_ost (pos := q3) (pe_var (pos := q1) (i := 0) h0 hvis hd hcd) pe t5)
      refine wpAny_mono (ps1.run [] s2 _ H1 { nx := fun _ H' => Q .non H', rt := fun _ _ => False, bk := fun _ _ => False, ct := fun _ _ => False } I2 ?_) (fun fl s' hsp => ?_) fun _ _ z => z
      · refine snd_frz se (R := fun d _ => R [(fld, d)]) s1 r1 qq1 (fun Z2 H2 Γ2 F2 d2 v2 s2' e2 r2 rz2 q2 => ?_) xok_no
        have ha2 : H2 a = some (exo a C none) := (e2.fr a _ ha1 fun q => by
          obtain ⟨_, h⟩ := e1.fr a _ ha (by simp)
          exact h q).1
        have za2 : Z2 a = none := by
          cases z : Z2 a with
          | none => rfl
          | some u =>
            rcases e2.zn a (by rw [z]; simp) with h | h | h
            · exact absurd za1 h
            · exact absurd h (e1.fr a _ ha (by simp)).2
            · rw [ha1] at h; cases h
        have e12 : Ext Z H [] Z2 H2 F2 := e1.trans e2
        refine ⟨_, σ0, a, C, rfl, F.oex, hno, .inl ⟨ha2, fun dx hdx ndx => ?_⟩⟩
        have zdx : Z2 dx = none := s2'.free hdx
        refine kQ Z2 _ dx [(fld, d2)] [(fld, v2)] (fun b o q => ?_) e12.z (fun b h => ?_) (fun b o hb q => ?_) upd_same (by rw [upd_ne ndx, upd_same]) ?_ zdx za2 rfl (.cons rz2 .nil) q2
        · have b1 : b ≠ a := fun z => by rw [z, za2] at q; cases q
          have b2 : b ≠ dx := fun z => by rw [z, zdx] at q; cases q
          rw [upd_ne b1, upd_ne b2]
          exact s2' _ _ q
        · rcases e12.zn b h with h | h | h
          · exact .inl h
          · exact absurd h (by simp)
          · exact .inr h
        · obtain ⟨h1, _⟩ := e12.fr b o q (by simp)
          have b2 : b ≠ dx := fun z => by rw [z, hdx] at h1; cases h1
          rw [upd_ne hb, upd_ne b2]
          exact h1
        · cases z : H dx with
          | none => rfl
          | some o =>
            obtain ⟨h1, _⟩ := e12.fr dx o z (by simp)
            rw [hdx] at h1; cases h1
      · cases fl with
        | next =>
          obtain ⟨σ', H', J, q⟩ := hsp
          exact ⟨.non, H', J.os, J.bare, J.base, J.hok, rfl, q⟩
        | ret u => obtain ⟨_, _, _, _, _, q⟩ := hsp; exact q.elim
        | brk => obtain ⟨_, _, _, q⟩ := hsp; exact q.elim
        | cont => obtain ⟨_, _, _, q⟩ := hsp; exact q.elim
end
/-! ### makers of exceptions -/
abbrev MX := Sl → (Addr → List (Str × D) → Sl → Prop) → XRl → Prop
def SndX (K : PySem.W.Frag) (W : WX) (t : St → Hp → XK → Prop) (m : MX) : Prop :=
  ∀ Z H σ Γ F R XR (Q : XK), Same Z H → Rsl K Z H Γ σ F → m Γ R XR → (∀ Z' H' Γ' F' C d fs, Same Z' H' → Ext Z H F Z' H' F' → Rsl K Z' H' Γ' σ F' → Xd K Z' d fs → R C fs Γ' → Q (.ref C) d H') → XOk K Z H F σ XR W → t σ H Q
structure VMx (X : Cx) (W : WX) (e : Expr) (m : MX) : Prop where
  ex : ∃ t, PMk X e t ∧ SndX X.K W t m
def sRaise (m : MX) : MS := fun Γ M => m Γ (fun C fs Γ' => M.xr C fs Γ') M.xr
theorem vs_raise {X : Cx} {W : WX} {np : Nat} {e : Expr} {m : MX} {pos : Pos} (hc : X.calm = true) (tk : Takes X W) (h : VMx X W e m) : VS X W np (.Raise (some e) none pos) (sRaise m) := by
  obtain ⟨t, pm, sn⟩ := h.ex
  exact ⟨_, ps_raise hc tk pm, fun Z H σ Γ F M E hs rs m k => sn Z H σ Γ F _ M.xr _ hs rs m (fun Z' H' Γ' F' C d fs s1 e1 r1 x1 q1 => k.xr Z' H' σ Γ' F' C d fs s1 e1 r1 rfl x1 q1) k.xok⟩
def mxC (C : Addr) (n : Nat) (ok : List D → (List (Str × D) → Prop) → Prop) (g : MA) : MX := fun Γ R XR => g Γ (fun ts Γ' => ts.length = n ∧ ok (ts.map T.toD) fun fs => R C fs Γ') XR
section
variable {X : Cx} {W : WX} {C fI : Addr} {fd : FuncData} {ps : List Str} {x : Str} {p pos : Pos} {e : Expr} {es : List Expr}
/-- C(e, ..) where the promise is spX -/
theorem vx_mk {k n : Nat} {ok : List D → (List (Str × D) → Prop) → Prop} {g : MA} (TC : OexC X.K C) (iC : PySem.W.findIn X.K (.ref C) "__init__" = some (some (.ref fI))) (tI : PySem.W.typeIn X.K (.ref fI) = some (.type "function"))
    (F1 : FnOk X.prog X.w X.K X.mg X.base (L2.CX X.prog X.w) k fI fd ps (spX X.K n C ok)) (hr : Room (k + 1) X.A) (hb : Binds X.K fd ps []) (hg : Gl X x) (hm : X.mg x = some (.ref C)) (ha : VA X W (e :: es) g) (hes : es.length < 1000 := by decide)
    (hdb : (x == ("__debug__" : Str)) = false := by decide) (he : starEach (e :: es) X.env = (false, eval e X.env) :: starEach es X.env := by rfl) (hpl : (backTo pos (starEach es X.env)).any (·.1) = false := by rfl) : VMx X W (.Call (.Name x p) (e :: es) [] pos) (mxC C n ok g) := by
  obtain ⟨ta, pa, sa⟩ := ha.ex
  refine ⟨_, pmk_oex TC iC tI F1 hr hb (.nil) (passes_call (W := noW) takes0 fun _ _ _ _ z => z) hg hm pa hdb he hpl, fun Z H σ Γ F R XR Q hs rs m kq xk => ?_⟩
  refine sa Z H σ Γ F _ XR _ hs rs m (fun Z0 H1 Γ1 F1 ts v1 G s0 e0 r0 p1 n1 l1 q1 => ?_) xk
  obtain ⟨f1, f2, f3, f4⟩ := frz_args s0 r0 p1 n1
  have e1 := ext_frz e0 fun x hx => (p1.foot x hx).1
  obtain ⟨Z1, hZ1⟩ : ∃ Z1, Z1 = frzH Z0 H1 G := ⟨_, rfl⟩
  rw [← hZ1] at f1 f2 f3 f4 e1
  refine ⟨by rw [l1, List.length_cons]; omega, fun a na => ?_⟩
  have za : Z1 a = none := f2.free na
  refine ⟨Z1, a, v1, ts.map T.toD, _, by rw [List.append_nil], by rw [← f4.length, List.length_map]; exact q1.1, upd_same, za, fun b o z => ?_, f4, q1.2, fun Z2 H2 d fs fs' s2 z12 zn keep e2a e2d hd zd za2 hk rz q2 => ⟨rfl, d, fs', e2a, e2d, ?_, ?_⟩⟩
  · rw [upd_ne (ne_of_none z za)]
    exact f2 b o z
  · by_cases hda : d = a
    · rw [hda]; exact na
    · rw [upd_ne hda] at hd; exact hd
  · have hda : d ≠ a := fun z => by rw [z, upd_same] at hd; cases hd
    have hd1 : H1 d = none := by rw [upd_ne hda] at hd; exact hd
    have zz : Same Z2 (upd Z2 d (.xd fs')) := same_upd zd
    have s3 : Same (upd Z2 d (.xd fs')) (upd (del H2 a) d (.xd fs')) := fun b o q => by
      by_cases hb : b = d
      · rw [hb, upd_same] at q ⊢; exact q
      · rw [upd_ne hb] at q ⊢
        rw [del_ne (ne_of_none q za2)]
        exact s2 b o q
    have e3 : Ext Z1 H1 F1 (upd Z2 d (.xd fs')) (upd (del H2 a) d (.xd fs')) F1 := ⟨z12.trans zz, fun b h => ?_, fun b o h nf => ⟨?_, nf⟩⟩
    · have r3 : Rsl X.K (upd Z2 d (.xd fs')) (upd (del H2 a) d (.xd fs')) Γ1 σ F1 := f3.mono (z12.trans zz) fun y hy => by
        obtain ⟨hz, o, ho⟩ := f3.foot y hy
        have ya : y ≠ a := fun z => by rw [z, na] at ho; cases ho
        have yd : y ≠ d := fun z => by rw [z, hd1] at ho; cases ho
        refine ⟨?_, ?_⟩
        · rw [upd_ne yd]
          cases q : Z2 y with
          | none => rfl
          | some u =>
            rcases zn y (by rw [q]; simp) with h | h
            · exact absurd hz h
            · rw [upd_ne ya, ho] at h; cases h
        · rw [upd_ne yd, del_ne ya, ho]
          exact keep y o ya (by rw [upd_ne ya]; exact ho)
      exact kq _ _ Γ1 F1 C (some d) fs s3 (e1.trans e3) r3 (.dct upd_same hk (rz.mono zz)) q2
    · by_cases hbd : b = d
      · rw [hbd]; exact .inr (.inr hd1)
      rw [upd_ne hbd] at h
      rcases zn b h with h | h
      · exact .inl h
      · by_cases hb : b = a
        · rw [hb]; exact .inr (.inr na)
        · rw [upd_ne hb] at h; exact .inr (.inr h)
    · have ba : b ≠ a := fun z => by rw [z, na] at h; cases h
      have bd : b ≠ d := fun z => by rw [z, hd1] at h; cases h
      rw [upd_ne bd, del_ne ba]
      exact keep b o ba (by rw [upd_ne ba]; exact h)
end
end VL
set_option Elab.async false
set_option linter.all false
set_option autoImplicit false
set_option maxRecDepth 100000
set_option maxHeartbeats 4000000
/-! VL15: try, except, what a suite asks of its exception; isinstance. -/
namespace VL
open PySem PySem.Spec PySem.Calls L2
open PyProof.Rows hiding St

def canS (K : PySem.W.Frag) (np : Nat) (W : WX) (m : MS) : TS := fun E σ H => ∃ Z Γ F M, Same Z H ∧ Rsl K Z H Γ σ F ∧ m Γ M ∧ EOk K np Z H F σ M W E
theorem VSs.can {X : Cx} {W : WX} {np : Nat} {st : List Stmt} {m : MS} (h : VSs X W np st m) : PSs X st (canS X.K np W m) := by
  obtain ⟨t, pe, sn⟩ := h.ex
  exact ⟨fun pins s σ H E I ⟨Z, Γ, F, M, hs, rs, hm, k⟩ => pe.run pins s σ H E I (sn Z H σ Γ F M E hs rs hm k)⟩
theorem xd_exc {K : PySem.W.Frag} {Z : Hp} {d : Option Addr} {fs : List (Str × D)} (x : Xd K Z d fs) (a C : Addr) : Rz K Z (.exc a C d fs) (.ref a) := by
  cases x with
  | non => exact .exc0
  | dct h1 h2 h3 => exact .excd h1 h2 h3
/-- the suite of a caught exception: at a, of the class at C, its dict d -/
abbrev MU := Addr → Addr → Option Addr → MS
structure VSu (X : Cx) (np : Nat) (st : List Stmt) (m : MU) : Prop where
  run : ∀ (a C : Addr) (oe : Obj) (d : Option Addr) (pn : List (Addr × Obj)), Zc (.ref C) d oe → (∃ vs, oe.data = .fields vs) → VSs (X.suite a ((a, oe) :: pn)) noW np st (m a C d)
def suC (K : PySem.W.Frag) (np : Nat) (m : MU) : Addr → Value → Option Addr → TS := fun a cls d E σ H => ∃ C, cls = .ref C ∧ canS K np noW (m a C d) E σ H
theorem VSu.can {X : Cx} {np : Nat} {st : List Stmt} {m : MU} (h : VSu X np st m) (a : Addr) (oe : Obj) (cls : Value) (d : Option Addr) (pn : List (Addr × Obj)) (hz : Zc cls d oe) (hf : ∃ vs, oe.data = .fields vs) : PSs (X.suite a ((a, oe) :: pn)) st (suC X.K np m a cls d) :=
  ⟨fun pins s σ H E I ⟨C, ec, q⟩ => by
    subst ec
    exact (h.run a C oe d pn hz hf).can.run pins s σ H E I q⟩
def sTryAs (K : PySem.W.Frag) (c : Value) (i : Nat) (mb : MS) (ms : MU) : MS := fun Γ M => mb Γ { M with xr := fun C fs Γ' => ∃ b, PySem.W.exmOne K (.ref C) c = some b ∧ (b = true → i < Γ'.length ∧ ∀ a d, ms a C d (Γ'.set i (some (.frz (.exc a C d fs)))) { nx := fun Γ2 => M.nx (Γ2.set i none), rt := M.rt, bk := fun Γ2 => M.bk (Γ2.set i none), ct := fun Γ2 => M.ct (Γ2.set i none), xr := noX }) ∧ (b = false → M.xr C fs Γ') }
def sTryOnly (K : PySem.W.Frag) (c : Value) (mb : MS) (ms : MU) : MS := fun Γ M => mb Γ { M with xr := fun C fs Γ' => ∃ b, PySem.W.exmOne K (.ref C) c = some b ∧ (b = true → ∀ a d, ms a C d Γ' { M with xr := noX }) ∧ (b = false → M.xr C fs Γ') }
section
variable {X : Cx} {W : WX} {np : Nat} {x n : Str} {c : Value} {i : Nat} {body suite : List Stmt} {b₀ : Stmt} {q pos pos' : Pos} {mb : MS} {ms : MU}
theorem vs_tryAs (hs : X.stack = X.env :: X.outer) (hf : X.env.frame = some X.env.locals) (hN : X.N.Nodup) (hc : Names X x c) (tk : Takes X W)
    (hb : ∀ (W' : WX) (pn : List (Addr × Obj)) (xe : Value → Shared → Prop), Takes (X.tr pn xe) W' → PassesOwn (model X.prog X.w) X.A X.env xe → VSs (X.tr pn xe) W' np body mb) (hsu : VSu X np (b₀ :: suite) ms)
    (hp : np ≤ i := by decide) (hi : X.N[i]? = some n := by rfl) (hln : X.env.kindOf n = some .local := by rfl) : VS X W np (.Try body [.ExceptHandler (some (.Name x q)) (some n) (b₀ :: suite) pos'] [] [] pos) (sTryAs X.K c i mb ms) := by
  refine ⟨_, ps_try_as hs hf hN hi hln hc tk (tb := fun W' => canS X.K np W' mb) (fun W' pn xe t p => (hb W' pn xe t p).can) hsu.can, fun Z H σ Γ F M E hsame rs m k => ⟨Z, Γ, F, _, hsame, rs, m, k.nx, k.bk, k.ct, k.rt, ?_⟩⟩
  intro Z' H' σ' Γ' F' C d fs s1 e1 r1 p1 x1 ⟨b, hb1, hy, hn⟩
  refine ⟨b, hb1, fun eb a na => ?_, fun eb => k.xr Z' H' σ' Γ' F' C d fs s1 e1 r1 p1 x1 (hn eb)⟩
  obtain ⟨hl, q⟩ := hy eb
  obtain ⟨F2, r2, sub⟩ := r1.put hl (.frz (xd_exc x1 a C)) (fun x hx => absurd hx (by simp))
  have sub' : ∀ x ∈ F2, x ∈ F' := fun x hx => (sub x hx).elim (fun h => h) fun h => absurd h (by simp)
  refine ⟨C, rfl, Z', _, F2, _, s1, r2, q a d, ?_, ?_, ?_, ?_, ?_⟩
  · intro Z2 H2 σ2 Γ2 F3 s2 e2 r3 p3 q3
    obtain ⟨F4, r4, sub4⟩ := rsl_setn r3 i none
    exact k.nx Z2 H2 _ _ F4 s2 ((e1.sub sub').trans (e2.sub sub4)) r4 ((take_set hp).trans ((p3.trans (take_set hp)).trans p1)) q3
  · intro Z2 H2 σ2 Γ2 F3 s2 e2 r3 p3 q3
    obtain ⟨F4, r4, sub4⟩ := rsl_setn r3 i none
    exact k.bk Z2 H2 _ _ F4 s2 ((e1.sub sub').trans (e2.sub sub4)) r4 ((take_set hp).trans ((p3.trans (take_set hp)).trans p1)) q3
  · intro Z2 H2 σ2 Γ2 F3 s2 e2 r3 p3 q3
    obtain ⟨F4, r4, sub4⟩ := rsl_setn r3 i none
    exact k.ct Z2 H2 _ _ F4 s2 ((e1.sub sub').trans (e2.sub sub4)) r4 ((take_set hp).trans ((p3.trans (take_set hp)).trans p1)) q3
  · intro Z2 H2 σ2 Γ2 F3 r v G s2 e2 r3 rv n3 p3 q3
    exact k.rt Z2 H2 σ2 Γ2 F3 r v G s2 ((e1.sub sub').trans e2) r3 rv n3 ((p3.trans (take_set hp)).trans p1) q3
  · intro Z2 H2 σ2 Γ2 F3 C2 d2 fs2 s2 e2 r3 p3 x3 q3
    exact q3.elim
theorem vs_tryOnly (hs : X.stack = X.env :: X.outer) (hf : X.env.frame = some X.env.locals) (hc : Names X x c) (tk : Takes X W)
    (hb : ∀ (W' : WX) (pn : List (Addr × Obj)) (xe : Value → Shared → Prop), Takes (X.tr pn xe) W' → PassesOwn (model X.prog X.w) X.A X.env xe → VSs (X.tr pn xe) W' np body mb) (hsu : VSu X np (b₀ :: suite) ms) :
    VS X W np (.Try body [.ExceptHandler (some (.Name x q)) none (b₀ :: suite) pos'] [] [] pos) (sTryOnly X.K c mb ms) := by
  refine ⟨_, ps_try_only hs hf hc tk (tb := fun W' => canS X.K np W' mb) (fun W' pn xe t p => (hb W' pn xe t p).can) hsu.can, fun Z H σ Γ F M E hsame rs m k => ⟨Z, Γ, F, _, hsame, rs, m, k.nx, k.bk, k.ct, k.rt, ?_⟩⟩
  intro Z' H' σ' Γ' F' C d fs s1 e1 r1 p1 x1 ⟨b, hb1, hy, hn⟩
  refine ⟨b, hb1, fun eb a na => ?_, fun eb => k.xr Z' H' σ' Γ' F' C d fs s1 e1 r1 p1 x1 (hn eb)⟩
  exact ⟨C, rfl, Z', Γ', F', _, s1, r1, hy eb a d, fun Z2 H2 σ2 Γ2 F3 s2 e2 r3 p3 q3 => k.nx Z2 H2 σ2 Γ2 F3 s2 (e1.trans e2) r3 (p3.trans p1) q3, fun Z2 H2 σ2 Γ2 F3 s2 e2 r3 p3 q3 => k.bk Z2 H2 σ2 Γ2 F3 s2 (e1.trans e2) r3 (p3.trans p1) q3,
    fun Z2 H2 σ2 Γ2 F3 s2 e2 r3 p3 q3 => k.ct Z2 H2 σ2 Γ2 F3 s2 (e1.trans e2) r3 (p3.trans p1) q3, fun Z2 H2 σ2 Γ2 F3 r v G s2 e2 r3 rv n3 p3 q3 => k.rt Z2 H2 σ2 Γ2 F3 r v G s2 (e1.trans e2) r3 rv n3 (p3.trans p1) q3, fun _ _ _ _ _ _ _ _ _ _ _ _ _ q => q.elim⟩
end
/-! ### in the suite -/
def mXf (K : PySem.W.Frag) (i : Nat) (f : Str) (C : Addr) : ME := fun Γ R _ => ∃ a d fs dv, Γ[i]? = some (some (.frz (.exc a C d fs))) ∧ XfC K C ∧ PySem.W.findIn K (.ref C) f = some none ∧ fs.lookup f = some dv ∧ R (.frz dv) Γ
def mXi (K : PySem.W.Frag) (i : Nat) (C : Addr) (b : Bool) : ME := fun Γ R _ => (∃ a d fs, Γ[i]? = some (some (.frz (.exc a C d fs)))) ∧ R (.frz (.bl b)) Γ
section
variable {X : Cx} {W : WX} {a C : Addr} {oe : Obj} {d : Option Addr} {pn : List (Addr × Obj)}
theorem exc_at {K : PySem.W.Frag} {Z H : Hp} {a C : Addr} {d : Option Addr} {fs : List (Str × D)} {v : V} {G : List Addr} (r : Rp K Z H (.frz (.exc a C d fs)) v G) : v = .ref a ∧ Xd K Z d fs := by
  cases r with
  | frz rz =>
    cases rz with
    | exc0 => exact ⟨rfl, .non⟩
    | excd h1 h2 h3 => exact ⟨rfl, .dct h1 h2 h3⟩
/-- e.f -/
theorem ve_xf (i : Nat) {x f : Str} {px pos : Pos} (hz : Zc (.ref C) d oe) (hf : ∃ vs, oe.data = .fields vs) (hXf : XfC X.K C) (hno : PySem.W.findIn X.K (.ref C) f = some none)
    (hN : X.N[i]? = some x := by rfl) (hv : Vis X.env.scope x := by first | exact Or.inl rfl | exact Or.inr (Or.inl rfl) | exact Or.inr (Or.inr rfl)) (hd : (x == ("__debug__" : Str)) = false := by decide) (hcd : (x == ("__classdict__" : Str)) = false := by decide)
    (hb : attributeBase (.Name x px) f X.env (eval (.Name x px) X.env) = eval (.Name x px) X.env := by rfl) : VE (X.suite a ((a, oe) :: pn)) W (.Attribute (.Name x px) f pos) (fun Γ R _ => ∃ fs dv, Γ[i]? = some (some (.frz (.exc a C d fs))) ∧ fs.lookup f = some dv ∧ R (.frz dv) Γ) := by
  refine ⟨_, pe_xf hXf hno hz hf (pe_var (X := X.suite a ((a, oe) :: pn)) hN hv hd hcd) hb, fun Z H σ Γ F R XR Q hs rs m k xk => ?_⟩
  obtain ⟨fs, dv, et, hl, q⟩ := m
  obtain ⟨v, G, ev, rp, _⟩ := rs.at et
  obtain ⟨e1, xd⟩ := exc_at rp
  subst e1
  cases xd with
  | non => simp at hl
  | @dct dd _ fs' h1 h2 h3 =>
    obtain ⟨w, hw, rw'⟩ := Rzs.lookup h2 h3 hl
    exact ⟨_, ev, rfl, rfl, dd, fs', w, rfl, hs _ _ h1, hw, k.pure hs rs rw' q⟩
/-- isinstance(e, c) -/
def rIsD (K : PySem.W.Frag) (C a : Addr) (d : Option Addr) : List V → Hp → VK → Prop := fun xs H Q => ∃ (c : V) (cv : Value) (b : Bool), xs = [.ref a, c] ∧ ClsV c cv ∧ (∀ dd, d = some dd → ∃ fs, H dd = some (.xd fs)) ∧ PySem.W.kitOne K (.ref C) cv = some b ∧ Q (.bl b) H
theorem call_isD (E : ExcC X.K C) (hz : Zc (.ref C) d oe) (hf : ∃ vs, oe.data = .fields vs) : CallR (X.suite a ((a, oe) :: pn)) (.builtin "isinstance") (rIsD X.K C a d) := by
  intro pins s σ H xs us Q I r h
  obtain ⟨c, cv, b, rfl, hcv, hdd, e, q⟩ := h
  cases r with
  | cons rx rr =>
    cases rr with
    | cons rt rr =>
      cases rr
      cases rx
      have ec := hcv.eq rt
      subst ec
      obtain ⟨hget, _⟩ := I.pin (a, oe) (List.mem_append.mpr (.inl List.mem_cons_self))
      obtain ⟨us, hv⟩ := hf
      have hcl : (PySem.W.clsIn X.K C).isSome = true := by
        obtain ⟨cd, h1, _⟩ := PySem.W.any_some E.hd
        rw [h1] <;> rfl
      have key : ∃ od, PySem.W.InstAt s.heap a oe C od := by
        cases d with
        | none =>
          refine ⟨none, hget, hz.1, ?_, ?_⟩
          · unfold PySem.W.notCls; rw [hv] <;> rfl
          · rw [hz.2]; trivial
        | some dd =>
          obtain ⟨fs, ea⟩ := hdd dd rfl
          have hx : ObjOk X.prog X.w H s.heap dd (.xd fs) := I.hok dd _ ea
          obtain ⟨mA, hns, hr⟩ := hx
          obtain ⟨od, ho, hl⟩ := lookIn_ns hns
          exact ⟨some od, hget, hz.1, by unfold PySem.W.notCls; rw [hv] <;> rfl, by rw [hz.2]; exact ho⟩
      obtain ⟨od, J⟩ := key
      exact PySem.W.kia_one (PySem.W.kitx_exc hcl E.hg E.hk E.hs E.ha E.hn E.ht E.hm) I.kIn J e (fun z => nomatch z) fun tk => ⟨.bl b, H, I.kept (t' := tk) fun _ _ z => z, rfl, q⟩
theorem ve_xi (i : Nat) {x : Str} {px p pos : Pos} {c : V} {cv : Value} {b : Bool} {ce : Expr} (E : ExcC X.K C) (hz : Zc (.ref C) d oe) (hf : ∃ vs, oe.data = .fields vs) (hc : PE (X.suite a ((a, oe) :: pn)) ce (tC c)) (hcv : ClsV c cv) (hk : PySem.W.kitOne X.K (.ref C) cv = some b) (hg : Gl X "isinstance") (hm : X.mg "isinstance" = none)
    (hN : X.N[i]? = some x := by rfl) (hv : Vis X.env.scope x := by first | exact Or.inl rfl | exact Or.inr (Or.inl rfl) | exact Or.inr (Or.inr rfl)) (hd : (x == ("__debug__" : Str)) = false := by decide) (hcd : (x == ("__classdict__" : Str)) = false := by decide)
    (hs1 : starEach [.Name x px, ce] X.env = (false, eval (.Name x px) X.env) :: starEach [ce] X.env := by rfl) (hs2 : starEach [ce] X.env = (false, eval ce X.env) :: starEach [] X.env := by rfl) (hpl : (backTo pos (starEach [ce] X.env)).any (·.1) = false := by rfl) (hbt : bootBuiltins ("isinstance" : Str) = some (.builtin "isinstance") := by first | exact PyProof.Rows.boot_isinstance | kernel_rfl) :
    VE (X.suite a ((a, oe) :: pn)) W (.Call (.Name "isinstance" p) [.Name x px, ce] [] pos) (fun Γ R _ => (∃ fs, Γ[i]? = some (some (.frz (.exc a C d fs)))) ∧ R (.frz (.bl b)) Γ) := by
  refine ⟨_, pe_callB (X := X.suite a ((a, oe) :: pn)) (call_isD E hz hf) hg hm hbt (pa_cons (pe_var (X := X.suite a ((a, oe) :: pn)) hN hv hd hcd) (pa_cons hc pa_nil hs2) hs1) (by decide) (by decide) hs1 hpl, fun Z H σ Γ F R XR Q hs rs m k xk => ?_⟩
  obtain ⟨⟨fs, et⟩, q⟩ := m
  obtain ⟨v, G, ev, rp, _⟩ := rs.at et
  obtain ⟨e1, xd⟩ := exc_at rp
  subst e1
  refine ⟨_, ev, c, cv, b, rfl, hcv, fun dd ed => ?_, hk, k.pure hs rs (.bl b) q⟩
  subst ed
  cases xd with
  | dct h1 h2 h3 => exact ⟨_, hs _ _ h1⟩
end
end VL
set_option Elab.async false
set_option linter.all false
set_option autoImplicit false
set_option maxRecDepth 100000
set_option maxHeartbeats 4000000
/-! VL16: answers frozen, own ==, repr compared, dict displays, isinstance of instances. -/
namespace VL
open PySem PySem.Spec PySem.Calls L2
open PyProof.Rows hiding St

section
variable {X : Cx} {W : WX}
/-! ### an answer frozen -/
def mFrz (m : ME) : ME := fun Γ R XR => m Γ (fun t Γ' => R (.frz t.toD) Γ') XR
theorem ve_frz {e : Expr} {m : ME} (h : VE X W e m) : VE X W e (mFrz m) := by
  obtain ⟨t, pe, sn⟩ := h.ex
  exact ⟨_, pe, fun Z H σ Γ F R XR Q hs rs m k x => snd_frz sn (R := fun d Γ' => R (.frz d) Γ') hs rs m (fun Z' H' Γ' F' d v s1 e1 r1 rz q => (k.step e1).pure s1 r1 rz q) x⟩
theorem VO.fz {e : Expr} {m : ME} (h : VE X W e m) : VO X W e (.ex (mFrz m)) := .ex (ve_frz h)
theorem ve_bltn {x : Str} {d : D} {v : V} {u : Value} {pos : Pos} (hg : Gl X x) (hm : X.mg x = none) (hv : bootBuiltins x = some u) (r : RelV v u) (rz : ∀ Z, Rz X.K Z d v) (hn : x ≠ "__name__" := by decide) (hd : (x == ("__debug__" : Str)) = false := by decide) : VE X W (.Name x pos) (mC d) :=
  ⟨_, pe_bltn hg hm hv r hn hd, snd_c rz⟩
/-! ### == by a class's own def -/
theorem pstep_of {Z H Z' H' : Hp} {F' : List Addr} (hs : Same Z' H') (e : VL.Ext Z H [] Z' H' F') : PStep Z H Z' H' := ⟨e.z, hs, fun a o h => (e.fr a o h (by simp)).1, fun a h => (e.zn a h).elim .inl fun h => h.elim (fun h => absurd h (by simp)) .inr⟩
def oOwn (K : PySem.W.Frag) (Cs : List Addr) (sp : VSp) : D → D → (T → Prop) → Prop := fun d e R => ∃ C fs C' gs, d = .obj C fs ∧ e = .obj C' gs ∧ C ∈ Cs ∧ PySem.W.notFirst K C (.ref C') = true ∧ sp [.frz d, .frz e] (fun r _ => ∃ b, r = .frz (.bl b) ∧ R (.frz (.bl b))) noX
/-- a op b by the def of a's class -/
theorem ov_own {lv : Nat} {g : Addr} {fd : FuncData} {ps : List Str} {sp : VSp} {C : Addr} {op : CmpOp} (hop : ∀ a b, compareOp op a b = richCompare op a b) (F : FnG X.prog X.w X.K X.mg X.base lv g fd ps (lift X.K ps.length sp)) (hr : RoomG lv X.A) (hb : Binds X.K fd ps []) (hp : 2 = ps.length)
    (hcs : PySem.W.findIn X.K (.ref C) (cmpInfo op).2.1 = some (some (.ref g))) (hf : PySem.W.isFn X.K (.ref g) = true) : OpV X (compareOp op) (oOwn X.K [C] sp) := by
  refine ⟨fun x y H Q => ∃ a dx fs b C' dy gs, x = .ref a ∧ y = .ref b ∧ H a = some (.ins C dx fs) ∧ H b = some (.ins C' dy gs) ∧ PySem.W.notFirst X.K C (.ref C') = true ∧ lift X.K ps.length sp [x, y] H (fun v H' => (∃ k, v = .bl k) ∧ Q v H') (fun _ _ _ => False), ?_, ?_⟩
  · intro pins s σ H x y v u Q I rx ry ⟨a, dx, fs, b, C', dy, gs, e1, e2, ha, hb', hn, q⟩
    subst e1; subst e2
    obtain rfl : v = Value.ref a := rx
    obtain rfl : u = Value.ref b := ry
    obtain ⟨mA, J, _⟩ := ins_get I.hok ha
    obtain ⟨mB, J', _⟩ := ins_get I.hok hb'
    obtain ⟨od, J, _⟩ := J.look
    obtain ⟨od', J', _⟩ := J'.look
    obtain ⟨m, hF⟩ := I.fr
    rw [hop]
    refine PySem.W.cmp_K (op := op) (tb := .ref C') hr.room.units0 hF I.ok.mod.kin J J'.type hn hcs hf ?_
    refine wpAny_mono (run_fnG (E := fun _ => fun _ _ _ => False) (us := [.ref a, .ref b]) (vs := [.ref a, .ref b]) F hr hb (fun pn H st e s2 I2 c => passes_call (W := noW) takes0 (fun _ _ _ _ z => z) pn σ H st e s2 I2 c) I (.cons rfl (.cons rfl .nil)) q) (fun r s' z => ?_) fun _ _ x => x
    obtain ⟨z', H', I', rz, ⟨k, ek⟩, qz⟩ := z
    subst ek
    obtain rfl : r = Value.bool k := rz
    exact ⟨.bl k, H', I', rfl, qz⟩
  · intro Z H d v d' v' R Q hs w w' ⟨C2, fs, C', gs, e1, e2, hC, hn, q⟩ k
    subst e1; subst e2
    obtain rfl : C2 = C := by simpa using hC
    cases w with
    | rz r =>
      cases w' with
      | rz r' =>
        cases id r with
        | obj h1 h2 h3 =>
          cases id r' with
          | obj h1' h2' h3' =>
            refine ⟨_, _, _, _, C', _, _, rfl, rfl, hs _ _ h1, hs _ _ h1', hn, ⟨Z, _, [], _, _, hp, hs, .cons (F := []) (G := []) (.frz r) (.cons (F := []) (G := []) (.frz r') .nil (by simp)) (by simp), q, fun Z' H' v r Γ' F' G s' e' rp rr nr ⟨b, eb, qq⟩ => ?_, fun _ _ _ _ _ _ _ _ _ _ _ z => z.elim⟩⟩
            subst eb
            cases rr with
            | frz rz =>
              cases rz
              exact ⟨⟨b, rfl⟩, k Z' H' _ _ [] (pstep_of s' e') (by simp) (.frz (.bl b)) qq⟩
/-! ### repr -/
def rRepr (K : PySem.W.Frag) : List V → Hp → VK → Prop := fun xs H Q => ∃ x p, xs = [x] ∧ Dp K H x p ∧ p.canLay0 = true ∧ p.showable = true ∧ p.depth ≤ 64 ∧ p.shown.length ≤ sizeLine ∧ Q (.str p.shown) H
theorem call_repr (hg : X.A.guards = some []) (hu : X.A.units + 65 < cLine) : CallR X (.builtin "repr") (rRepr X.K) := by
  intro pins s σ H xs us Q I r ⟨x, p, e, hd, hc, hsh, hdp, hl, q⟩
  subst e
  obtain ⟨u, rfl, ru⟩ := r.one
  cases hd with
  | non =>
    obtain rfl : u = Value.none := ru
    exact PySem.P.repr_of_none ⟨.str _, H, I.tok _, ⟨_, rfl⟩, by simpa [PyData.shown] using q⟩
  | bl b =>
    obtain rfl : u = Value.bool b := ru
    exact PySem.P.repr_of_bool ⟨.str _, H, I.tok _, ⟨_, rfl⟩, by simpa [PyData.shown] using q⟩
  | int i =>
    obtain ⟨t, rfl⟩ := ru
    exact PySem.P.repr_of_int (by simpa [PyData.showable] using hsh) ⟨.str _, H, I.tok _, ⟨_, rfl⟩, by simpa [PyData.shown] using q⟩
  | str s0 =>
    obtain ⟨t, rfl⟩ := ru
    exact PySem.P.repr_of_str ⟨.str _, H, I.tok _, ⟨_, rfl⟩, by simpa [PyData.shown] using q⟩ (by simpa [PyData.shown] using hl)
  | @lst a vs ds h1 h2 =>
    obtain ⟨as, rd⟩ := Dp.reads I _ _ _ (Dp.lst h1 h2) ru
    obtain rfl : u = Value.ref a := ru
    exact repr_of_reads' rd hsh (PyData.noDict_hsm (PyData.hasDict_of_canLay _ hc)) hg (by omega) (fun b o h => h) (fun h' u' tk k => ⟨.str _, H, I.kept (t' := tk) k, ⟨_, rfl⟩, q⟩) hl
  | @tup a vs ds h1 h2 =>
    obtain ⟨as, rd⟩ := Dp.reads I _ _ _ (Dp.tup h1 h2) ru
    obtain rfl : u = Value.ref a := ru
    exact repr_of_reads' rd hsh (PyData.noDict_hsm (PyData.hasDict_of_canLay _ hc)) hg (by omega) (fun b o h => h) (fun h' u' tk k => ⟨.str _, H, I.kept (t' := tk) k, ⟨_, rfl⟩, q⟩) hl
def ShOk (p : PyData) : Prop := p.showable = true ∧ p.depth ≤ 64 ∧ (p.canLay0 = true → p.shown.length ≤ sizeLine)
/-- repr(a) == repr(b), repr(a) != repr(b) -/
def mRepr (g : Str → Str → Bool) (ma mb : ME) : ME := fun Γ R XR => ma Γ (fun ta Γ1 => ∃ p, ta.toD.py = some p ∧ ShOk p ∧ mb Γ1 (fun tb Γ2 => ∃ q, tb.toD.py = some q ∧ ShOk q ∧ R (.frz (.bl (g p.shown q.shown))) Γ2) XR) XR
theorem snd_repr {ta tb : TE} {ma mb : ME} {r : R2} {g : Str → Str → Bool} (hr : ∀ x y H Q, Q (.bl (g x y)) H → r (.str x) (.str y) H Q) (sa : Snd X.K W ta ma) (sb : Snd X.K W tb mb) : Snd X.K W (tOp r (tCB (rRepr X.K) (L2.tCons ta L2.tNil)) (tCB (rRepr X.K) (L2.tCons tb L2.tNil))) (mRepr g ma mb) := fun Z H σ Γ F R XR Q hs rs m k x => by
  refine snd_frz sa (R := fun d Γ1 => ∃ p, d.py = some p ∧ ShOk p ∧ mb Γ1 (fun tb Γ2 => ∃ q, tb.toD.py = some q ∧ ShOk q ∧ R (.frz (.bl (g p.shown q.shown))) Γ2) XR) hs rs m (fun Z1 H1 Γ1 F1 d v s1 e1 r1 rz q1 => ?_) x
  obtain ⟨p, hp, ⟨g1, g2, g3⟩, q1⟩ := q1
  obtain ⟨dp, cl⟩ := rz.dp s1 hp
  refine ⟨v, p, rfl, dp, cl, g1, g2, g3 cl, ?_⟩
  refine snd_frz sb (R := fun d Γ2 => ∃ q, d.py = some q ∧ ShOk q ∧ R (.frz (.bl (g p.shown q.shown))) Γ2) s1 r1 q1 (fun Z2 H2 Γ2 F2 d2 v2 s2 e2 r2 rz2 q2 => ?_) (x.step0 e1)
  obtain ⟨p2, hp2, ⟨g4, g5, g6⟩, q2⟩ := q2
  obtain ⟨dp2, cl2⟩ := rz2.dp s2 hp2
  exact ⟨v2, p2, rfl, dp2, cl2, g4, g5, g6 cl2, hr _ _ _ _ ((k.step (e1.trans e2)).pure s2 r2 (.bl _) q2)⟩
theorem rne_str {x y : Str} {H : Hp} {Q : VK} (q : Q (.bl (decide (x ≠ y))) H) : rNe (.str x) (.str y) H Q := by
  refine ⟨rfl, ?_⟩
  have e : (!decide (V.str x = V.str y)) = decide (x ≠ y) := by
    by_cases h : x = y
    · subst h; simp
    · have h' : V.str x ≠ V.str y := fun z => h (V.str.inj z)
      simp [h]
  rw [e]; exact q
theorem req_str {x y : Str} {H : Hp} {Q : VK} (q : Q (.bl (decide (x = y))) H) : rEq (.str x) (.str y) H Q := by
  refine ⟨rfl, ?_⟩
  have e : decide (V.str x = V.str y) = decide (x = y) := by
    by_cases h : x = y
    · subst h; simp
    · have h' : V.str x ≠ V.str y := fun z => h (V.str.inj z)
      simp [h]
  rw [e]; exact q
section
variable {a b : Expr} {ma mb : ME} {p1 p2 p3 p4 pos : Pos}
theorem pe_repr {a : Expr} {ta : TE} {p1 p3 : Pos} (hgd : X.A.guards = some []) (hu : X.A.units + 65 < cLine) (hg : Gl X "repr") (hm : X.mg "repr" = none) (pe : PE X a ta) (hs : starEach [a] X.env = (false, eval a X.env) :: starEach [] X.env) : PE X (.Call (.Name "repr" p1) [a] [] p3) (tCB (rRepr X.K) (L2.tCons ta L2.tNil)) :=
  pe_callB (call_repr hgd hu) hg hm (by kernel_rfl) (pa_cons pe pa_nil hs) (by decide) (by decide) hs rfl
theorem ve_reprNe (hr : RoomG 0 X.A) (hg : Gl X "repr") (hm : X.mg "repr" = none) (ha : VE X W a ma) (hb : VE X W b mb) (hsa : starEach [a] X.env = (false, eval a X.env) :: starEach [] X.env := by rfl) (hsb : starEach [b] X.env = (false, eval b X.env) :: starEach [] X.env := by rfl) :
    VE X W (.Compare (.Call (.Name "repr" p1) [a] [] p2) [.NotEq] [.Call (.Name "repr" p3) [b] [] p4] pos) (mRepr (fun x y => decide (x ≠ y)) ma mb) := by
  obtain ⟨ta, pa, sa⟩ := ha.ex
  obtain ⟨tb, pb, sb⟩ := hb.ex
  have hu : X.A.units + 65 < cLine := by have := hr.room.un; omega
  exact ⟨_, pe_cmpR op_ne (pe_repr hr.gd hu hg hm pa hsa) (pe_repr hr.gd hu hg hm pb hsb) (nomark _), snd_repr (fun _ _ _ _ q => rne_str q) sa sb⟩
theorem ve_reprEq (hr : RoomG 0 X.A) (hg : Gl X "repr") (hm : X.mg "repr" = none) (ha : VE X W a ma) (hb : VE X W b mb) (hsa : starEach [a] X.env = (false, eval a X.env) :: starEach [] X.env := by rfl) (hsb : starEach [b] X.env = (false, eval b X.env) :: starEach [] X.env := by rfl) :
    VE X W (.Compare (.Call (.Name "repr" p1) [a] [] p2) [.Eq] [.Call (.Name "repr" p3) [b] [] p4] pos) (mRepr (fun x y => decide (x = y)) ma mb) := by
  obtain ⟨ta, pa, sa⟩ := ha.ex
  obtain ⟨tb, pb, sb⟩ := hb.ex
  have hu : X.A.units + 65 < cLine := by have := hr.room.un; omega
  exact ⟨_, pe_cmpR op_eq (pe_repr hr.gd hu hg hm pa hsa) (pe_repr hr.gd hu hg hm pb hsb) (nomark _), snd_repr (fun _ _ _ _ q => req_str q) sa sb⟩
theorem vt_reprNe (hr : RoomG 0 X.A) (hg : Gl X "repr") (hm : X.mg "repr" = none) (ha : VE X W a ma) (hb : VE X W b mb) (hsa : starEach [a] X.env = (false, eval a X.env) :: starEach [] X.env := by rfl) (hsb : starEach [b] X.env = (false, eval b X.env) :: starEach [] X.env := by rfl) :
    VT X W (.Compare (.Call (.Name "repr" p1) [a] [] p2) [.NotEq] [.Call (.Name "repr" p3) [b] [] p4] pos) (mTst (mRepr (fun x y => decide (x ≠ y)) ma mb)) := by
  obtain ⟨ta, pa, sa⟩ := ha.ex
  obtain ⟨tb, pb, sb⟩ := hb.ex
  have hu : X.A.units + 65 < cLine := by have := hr.room.un; omega
  exact ⟨_, pt_cmpR op_ne (pe_repr hr.gd hu hg hm pa hsa) (pe_repr hr.gd hu hg hm pb hsb) (nomark _), snd_tst (snd_repr (fun _ _ _ _ q => rne_str q) sa sb)⟩
theorem vt_reprEq (hr : RoomG 0 X.A) (hg : Gl X "repr") (hm : X.mg "repr" = none) (ha : VE X W a ma) (hb : VE X W b mb) (hsa : starEach [a] X.env = (false, eval a X.env) :: starEach [] X.env := by rfl) (hsb : starEach [b] X.env = (false, eval b X.env) :: starEach [] X.env := by rfl) :
    VT X W (.Compare (.Call (.Name "repr" p1) [a] [] p2) [.Eq] [.Call (.Name "repr" p3) [b] [] p4] pos) (mTst (mRepr (fun x y => decide (x = y)) ma mb)) := by
  obtain ⟨ta, pa, sa⟩ := ha.ex
  obtain ⟨tb, pb, sb⟩ := hb.ex
  have hu : X.A.units + 65 < cLine := by have := hr.room.un; omega
  exact ⟨_, pt_cmpR op_eq (pe_repr hr.gd hu hg hm pa hsa) (pe_repr hr.gd hu hg hm pb hsb) (nomark _), snd_tst (snd_repr (fun _ _ _ _ q => req_str q) sa sb)⟩
end
end
end VL
set_option Elab.async false
set_option linter.all false
set_option autoImplicit false
set_option maxRecDepth 100000
set_option maxHeartbeats 4000000
/-! VL17: != by a class's own ==; isinstance of instances; dict displays. -/
namespace VL
open PySem PySem.Spec PySem.Calls L2
open PyProof.Rows hiding St

section
variable {M : Model} {prog : Program} {w : World} {A : Around} {E : Value → Shared → Prop} {s : Shared} {K : PySem.W.Frag} {x C f : Addr} {ox : Obj} {od : Option Obj} {b : Value}
theorem ifB_ne {args : List Value} {Q : Option Value → Shared → Prop} (kin : K.In s.heap) (I : PySem.W.InstAt s.heap x ox C od) (hn : PySem.W.findIn K (.ref C) "__ne__" = some (some (.builtin "object.__ne__")))
    (h : wpAny M A (call (.builtin "object.__ne__") (.ref x :: args)) (fun v => Q (some v)) E s) : wpAny M A (callSpecialIfBound? (.ref x) "__ne__" args) Q E s := by
  unfold callSpecialIfBound? bindSpecialIfBound?
  refine wpAny_holding (wpAny_bind (wpAny_bind (wpAny_bind (I.type.here ((PySem.W.looks_findIn kin hn).here ?_)))))
  refine wpAny_bind (wpAny_askSetting (wpAny_ite ?_))
  have last : wpAny M A (call (.builtin "object.__ne__") ([.ref x] ++ args) >>= fun v => pure (some v)) Q E s := wpAny_bind (wpAny_mono h (fun v s2 z => wpAny_pure z) fun _ _ z => z)
  split
  · exact wpAny_bind (wpAny_of_eq (F.cmp_object.ne.bind _) (wpAny_pure (by exact last)))
  · exact wpAny_tryCatch (wpAny_bind (wpAny_of_eq (F.cmp_object.ne.bind _) (wpAny_pure (by exact last))))
theorem call_ne {Q : Value → Shared → Prop} (kin : K.In s.heap) (I : PySem.W.InstAt s.heap x ox C od) (hm : PySem.W.mroIn K C (.type "object") = some true) (he : PySem.W.findIn K (.ref C) "__eq__" = some (some (.ref f))) (hf : PySem.W.isFn K (.ref f) = true) (hu : A.units + 1 < cLine)
    (h : wpAny (model prog w) A.in1 (call (.ref f) [.ref x, b]) (fun v s2 => ∃ k, v = .bool k ∧ Q (.bool (!k)) s2) E s) : wpAny (model prog w) A (call (.builtin "object.__ne__") [.ref x, b]) Q E s := by
  refine wpAny_call (codeAny_call_builtin F.cmp_object.ne.plain F.cmpEntry_ne (PySem.W.check_slot F.cmpKind_ne F.cmpSplit_ne (I.type.andThen (PySem.W.looks_mroIn kin hm)) (F.cmpArgs_ne _ _) ?_))
  unfold Builtin.«object.__ne__»
  have hu1 : A.in1.units < cLine := hu
  refine wpAny_bind (wpAny_of_eq (a := ((Value.ref x : Value), [b])) (by first | rfl | (simp only [slotArgs]; rfl)) ?_)
  refine wpAny_bind (wpAny_cRoomFor hu1 ?_)
  refine wpAny_bind (PySem.W.ifBound_K kin I he hf (wpAny_mono h (fun v s2 z => ?_) fun _ _ z => z))
  obtain ⟨k, ek, q⟩ := z
  subst ek
  refine wpAny_bind (wpAny_truthy_bool ?_)
  exact wpAny_pure q
theorem rich_ne {tb : Value} {L : Addr} {h₀ : Heap} {m : Str → Option Value} {Q : Value → Shared → Prop} (hu : A.units + 1 < cLine) (G : Fr h₀ L s.heap m) (kin0 : K.In h₀) (I : PySem.W.InstAt s.heap x ox C od) (hb : PySem.W.Looks (model prog w) s.heap (typeOf b) tb) (hn : PySem.W.notFirst K C tb = true)
    (hne : PySem.W.findIn K (.ref C) "__ne__" = some (some (.builtin "object.__ne__"))) (hm : PySem.W.mroIn K C (.type "object") = some true) (he : PySem.W.findIn K (.ref C) "__eq__" = some (some (.ref f))) (hf : PySem.W.isFn K (.ref f) = true)
    (h : wpAny (model prog w) A.in1 (call (.ref f) [.ref x, b]) (fun v s2 => ∃ k, v = .bool k ∧ Q (.bool (!k)) s2) E s) : wpAny (model prog w) A (richCompare .NotEq (.ref x) b) Q E s := by
  have kin := kin0.keeps G.keep
  have one : wpAny (model prog w) A (tryCompare (.ref x) "__ne__" b) (fun r s2 => ∃ k, r = some (.bool k) ∧ Q (.bool k) s2) E s := by
    unfold tryCompare
    refine wpAny_bind (ifB_ne kin I hne (call_ne kin I hm he hf hu (wpAny_mono h (fun v s2 z => ?_) fun _ _ z => z)))
    obtain ⟨k, ek, q⟩ := z
    subst ek
    exact ⟨k, rfl, wpAny_pure ⟨!k, rfl, q⟩⟩
  have hu0 : A.units < cLine := by omega
  unfold richCompare
  simp only [oneThing_ref]
  refine wpAny_holding (wpAny_bind (wpAny_cRoomFor hu0 ?_))
  refine wpAny_bind (I.type.here (wpAny_bind (hb.here ?_)))
  have tail : ∀ {r : Option Value} {s2 : Shared}, (∃ k, r = some (.bool k) ∧ Q (.bool k) s2) → ∃ v, r = some v ∧ Q v s2 := fun ⟨k, e, q⟩ => ⟨_, e, q⟩
  split
  · rename_i q
    have e : PySem.W.subIn K tb (.ref C) = some false := by
      rcases Bool.or_eq_true_iff.mp hn with e | e
      · rw [beq_iff_eq.mp e] at q; simp at q
      · exact beq_iff_eq.mp e
    refine wpAny_bind ((PySem.W.looks_subIn kin e).here ?_)
    rw [if_neg (by decide)]
    refine wpAny_bind (wpAny_mono one (fun r s2 z => ?_) fun _ _ z => z)
    obtain ⟨v, rfl, hq⟩ := tail z
    exact wpAny_pure hq
  · refine wpAny_bind (wpAny_pure ?_)
    rw [if_neg (by decide)]
    refine wpAny_bind (wpAny_mono one (fun r s2 z => ?_) fun _ _ z => z)
    obtain ⟨v, rfl, hq⟩ := tail z
    exact wpAny_pure hq
end
section
variable {X : Cx} {W : WX}
theorem RoomG.in1 {k : Nat} {A : Around} (r : RoomG (k + 1) A) : RoomG k A.in1 := ⟨r.room.in1, r.gd⟩
def oOwnNe (K : PySem.W.Frag) (Cs : List Addr) (sp : VSp) : D → D → (T → Prop) → Prop := fun d e R => ∃ C fs C' gs, d = .obj C fs ∧ e = .obj C' gs ∧ C ∈ Cs ∧ PySem.W.notFirst K C (.ref C') = true ∧ sp [.frz d, .frz e] (fun r _ => ∃ b, r = .frz (.bl b) ∧ R (.frz (.bl (!b)))) noX
theorem ov_ownNe {lv : Nat} {g : Addr} {fd : FuncData} {ps : List Str} {sp : VSp} {C : Addr} (Fg : FnG X.prog X.w X.K X.mg X.base lv g fd ps (lift X.K ps.length sp)) (hr : RoomG (lv + 1) X.A) (hb : Binds X.K fd ps []) (hp : 2 = ps.length)
    (hne : PySem.W.findIn X.K (.ref C) "__ne__" = some (some (.builtin "object.__ne__"))) (hm : PySem.W.mroIn X.K C (.type "object") = some true) (hcs : PySem.W.findIn X.K (.ref C) "__eq__" = some (some (.ref g))) (hf : PySem.W.isFn X.K (.ref g) = true) : OpV X (compareOp .NotEq) (oOwnNe X.K [C] sp) := by
  refine ⟨fun x y H Q => ∃ a dx fs b C' dy gs, x = .ref a ∧ y = .ref b ∧ H a = some (.ins C dx fs) ∧ H b = some (.ins C' dy gs) ∧ PySem.W.notFirst X.K C (.ref C') = true ∧ lift X.K ps.length sp [x, y] H (fun v H' => ∃ k, v = .bl k ∧ Q (.bl (!k)) H') (fun _ _ _ => False), ?_, ?_⟩
  · intro pins s σ H x y v u Q I rx ry ⟨a, dx, fs, b, C', dy, gs, e1, e2, ha, hb', hn, q⟩
    subst e1; subst e2
    obtain rfl : v = Value.ref a := rx
    obtain rfl : u = Value.ref b := ry
    obtain ⟨mA, J, _⟩ := ins_get I.hok ha
    obtain ⟨mB, J', _⟩ := ins_get I.hok hb'
    obtain ⟨od, J, _⟩ := J.look
    obtain ⟨od', J', _⟩ := J'.look
    obtain ⟨m, hF⟩ := I.fr
    show wpAny _ _ (richCompare .NotEq _ _) _ _ _
    refine rich_ne (tb := .ref C') (by have := hr.room.un; omega) hF I.ok.mod.kin J J'.type hn hne hm hcs hf ?_
    have bt := hb s [.ref a, .ref b] I.kIn (by rw [List.append_nil]; exact hp)
    rw [List.append_nil] at bt
    refine wpAny_call (codeAny_mono (Fg.run X.A.in1 X.stack s H ⟨[.ref a, .ref b], []⟩ [.ref a, .ref b] [.ref a, .ref b] _ (fun _ _ _ => False) hr.in1 I.env0.in1 bt (.cons rfl (.cons rfl .nil)) q) fun res s2 hres => ?_)
    cases res with
    | error z => exact passes_call (W := noW) takes0 (fun _ _ _ _ z => z) pins σ H s z s2 I hres
    | ok fl =>
      cases fl with
      | ret r =>
        obtain ⟨z', H', I', rz, k, ek, qz⟩ := I.after hres
        subst ek
        obtain rfl : r = Value.bool k := rz
        exact ⟨k, rfl, .bl (!k), H', I', rfl, qz⟩
      | _ => exact hres.elim
  · intro Z H d v d' v' R Q hs w w' ⟨C2, fs, C', gs, e1, e2, hC, hn, q⟩ k
    subst e1; subst e2
    obtain rfl : C2 = C := by simpa using hC
    cases w with
    | rz r =>
      cases w' with
      | rz r' =>
        cases id r with
        | obj h1 h2 h3 =>
          cases id r' with
          | obj h1' h2' h3' =>
            refine ⟨_, _, _, _, C', _, _, rfl, rfl, hs _ _ h1, hs _ _ h1', hn, ⟨Z, _, [], _, _, hp, hs, .cons (F := []) (G := []) (.frz r) (.cons (F := []) (G := []) (.frz r') .nil (by simp)) (by simp), q, fun Z' H' v r Γ' F' G s' e' rp rr nr ⟨b, eb, qq⟩ => ?_, fun _ _ _ _ _ _ _ _ _ _ _ z => z.elim⟩⟩
            subst eb
            cases rr with
            | frz rz =>
              cases rz
              exact ⟨b, rfl, k Z' H' _ _ [] (pstep_of s' e') (by simp) (.frz (.bl (!b))) qq⟩
/-! ### isinstance of an instance -/
/-- what isinstance asks of the class at C -/
structure InsC (K : PySem.W.Frag) (C : Addr) : Prop where
  cls : Cls K C
  ca : PySem.W.findIn K (.ref C) "__class__" = some (some (.builtin "object.__class__"))
  cn : PySem.W.specialIn K (.builtin "object.__class__") "__get__" = some (some (.builtin "getset_descriptor.__get__"))
  ct : PySem.W.takesIn K (.builtin "object.__class__") = some true
  cm : PySem.W.mroIn K C (.type "object") = some true
def D.clsU : D → Option Value
  | .ref C => some (.ref C)
  | .ty n => some (.type n)
  | _ => none
theorem clsU_at {K : PySem.W.Frag} {Z H : Hp} {e : D} {v : V} (w : Vw K Z H e v) {u : Value} (h : e.clsU = some u) : ClsV v u := by
  cases w with
  | rz r =>
    cases r with
    | ref a => cases h; exact .own a
    | ty n => cases h; exact .ty n
    | _ => cases h
  | _ => cases h
def oIsi (K : PySem.W.Frag) : D → D → (T → Prop) → Prop := fun d e R => ∃ C fs u b, d = .obj C fs ∧ e.clsU = some u ∧ InsC K C ∧ PySem.W.kitOne K (.ref C) u = some b ∧ R (.frz (.bl b))
theorem cv_isi : CallV2 X (.builtin "isinstance") (oIsi X.K) := ⟨_, call_isi, fun Z H d v d' v' R Q hs w w' ⟨C, fs, u, b, e1, e2, I, hk, q⟩ k => by
  subst e1
  cases w with
  | rz r =>
    cases r with
    | obj h1 h2 h3 => exact ⟨_, _, .ref C, u, b, rfl, clsU_at w' e2, .base (.ins (hs _ _ h1) I.cls I.ca I.cn I.ct I.cm), hk, k.frz hs (.bl b) q⟩⟩
/-! ### displays of dicts -/
def mDisp : List (Key × ME) → Sl → (List (Key × D) → Sl → Prop) → XRl → Prop
  | [], Γ, R, _ => R [] Γ
  | (k, m) :: r, Γ, R, XR => m Γ (fun t Γ' => mDisp r Γ' (fun kvs Γ2 => R ((k, t.toD) :: kvs) Γ2) XR) XR
def mergeD (kvs : List (Key × D)) : List (Key × D) := kvs.foldl (fun acc kv => putD acc kv.1 kv.2) []
def mDct (l : List (Key × ME)) : ME := fun Γ R XR => mDisp l Γ (fun kvs Γ' => R (.bd (mergeD kvs)) Γ') XR
/-- keys are constants -/
inductive VPs (X : Cx) (W : WX) (pos : Pos) : List (Option Expr) → List Expr → List (Key × ME) → Prop
  | nil : VPs X W pos [] [] []
  | cons {ke e : Expr} {k : Key} {m : ME} {ks : List (Option Expr)} {es : List Expr} {l : List (Key × ME)} (hk : PE X ke (tC (kV k))) (h : VE X W e m) (r : VPs X W pos ks es l) : VPs X W pos (some ke :: ks) (e :: es) ((k, m) :: l)
theorem merge_rep {K : PySem.W.Frag} {Z : Hp} : ∀ {kvs : List (Key × D)} {kvs' : List (Key × V)} {acc : List (Key × D)} {acc' : List (Key × V)}, kvs'.map (·.1) = kvs.map (·.1) → Rzs K Z (kvs.map (·.2)) (kvs'.map (·.2)) → acc'.map (·.1) = acc.map (·.1) → Rzs K Z (acc.map (·.2)) (acc'.map (·.2)) →
    (mergeK acc' kvs').map (·.1) = (kvs.foldl (fun acc kv => putD acc kv.1 kv.2) acc).map (·.1) ∧ Rzs K Z ((kvs.foldl (fun acc kv => putD acc kv.1 kv.2) acc).map (·.2)) ((mergeK acc' kvs').map (·.2))
  | [], [], _, _, _, _, e, r => ⟨e, r⟩
  | [], _ :: _, _, _, e, _, _, _ => by simp at e
  | _ :: _, [], _, _, e, _, _, _ => by simp at e
  | (k, d) :: kvs, (k', v) :: kvs', acc, acc', e, r, e2, r2 => by
    simp only [List.map_cons, List.cons.injEq] at e
    obtain ⟨rfl, e⟩ := e
    simp only [List.map_cons] at r
    cases r with
    | cons h r =>
      obtain ⟨p1, p2⟩ := rzs_putD e2 r2 k' h
      exact merge_rep (kvs := kvs) (kvs' := kvs') (acc := putD acc k' d) (acc' := putK acc' k' v) e r p1 p2
theorem VPs.len {pos : Pos} {ks : List (Option Expr)} {es : List Expr} {l : List (Key × ME)} (h : VPs X W pos ks es l) : ks.length = es.length ∧ l.length = ks.length ∧ ks.all (·.isSome) = true := by
  induction h with
  | nil => exact ⟨rfl, rfl, rfl⟩
  | cons _ _ _ ih => exact ⟨by simp [ih.1], by simp [ih.2.1], by simp [ih.2.2]⟩
theorem VPs.snd {pos : Pos} {ks : List (Option Expr)} {es : List Expr} {l : List (Key × ME)} (h : VPs X W pos ks es l) : ∃ trs, PPs X pos ks es trs ∧ ∀ Z H σ Γ F R XR (Q : List (V × V) → Hp → Prop), Same Z H → Rsl X.K Z H Γ σ F → mDisp l Γ R XR →
    (∀ Z' H' Γ' F' (kvs : List (Key × D)) (kvs' : List (Key × V)), Same Z' H' → VL.Ext Z H F Z' H' F' → Rsl X.K Z' H' Γ' σ F' → kvs'.map (·.1) = kvs.map (·.1) → Rzs X.K Z' (kvs.map (·.2)) (kvs'.map (·.2)) → kvs.length = l.length → R kvs Γ' → Q (kvs'.map fun kv => (kV kv.1, kv.2)) H') → XOk X.K Z H F σ XR W → tPairs trs σ H Q := by
  induction h with
  | nil => exact ⟨[], pps_nil, fun Z H σ Γ F R XR Q hs rs m k x => k Z H Γ F [] [] hs (.refl ..) rs rfl .nil rfl m⟩
  | @cons ke e k0 m0 ks es l hk he _ ih =>
    obtain ⟨trs, pp, sn⟩ := ih
    obtain ⟨t, pe, se⟩ := he.ex
    refine ⟨_, pps_cons hk pe pp, fun Z H σ Γ F R XR Q hs rs m k x => ?_⟩
    show t σ H fun y H2 => tPairs trs σ H2 fun ps H3 => Q ((kV k0, y) :: ps) H3
    refine snd_frz se (R := fun d Γ' => mDisp l Γ' (fun kvs Γ2 => R ((k0, d) :: kvs) Γ2) XR) hs rs m (fun Z1 H1 Γ1 F1 d v s1 e1 r1 rz q1 => ?_) x
    refine sn Z1 H1 σ Γ1 F1 _ XR _ s1 r1 q1 (fun Z2 H2 Γ2 F2 kvs kvs' s2 e2 r2 hk2 hz2 hl q2 => ?_) (x.step0 e1)
    exact k Z2 H2 Γ2 F2 ((k0, d) :: kvs) ((k0, v) :: kvs') s2 (e1.trans e2) r2 (by simp [hk2]) (.cons (rz.mono e2.z) hz2) (by simp [hl]) q2
theorem ve_dct {ks : List (Option Expr)} {es : List Expr} {l : List (Key × ME)} {pos : Pos} (h : VPs X W pos ks es l) (h0 : ks ≠ [] := by exact fun z => nomatch z) (h15 : ks.length ≤ 15 := by decide) : VE X W (.Dict ks es pos) (mDct l) := by
  obtain ⟨l1, l2, l3⟩ := h.len
  obtain ⟨trs, pp, sn⟩ := h.snd
  refine ⟨_, pe_disp pp l3 l1 h0 h15, fun Z H σ Γ F R XR Q hs rs m k x p hp => ?_⟩
  have st := PStep.new hs (o := .dK []) hp
  have pF : p ∉ F := fun z => by obtain ⟨_, o, ho⟩ := rs.foot p z; rw [hp] at ho; cases ho
  have r0 : Rp X.K Z (upd H p (.dK [])) (.bd []) (.ref p) [p] := .bd upd_same (hs.free hp) rfl .nil
  have e0 : VL.Ext Z H F Z (upd H p (.dK [])) F := by simpa using st.ext (F := F) (G := []) (fun x hx => absurd hx (by simp))
  refine sn Z _ σ Γ F _ XR _ st.zh (st.slots rs) m (fun Z1 H1 Γ1 F1 kvs kvs' s1 e1 r1 hk hz hl q1 => ?_) (x.step0 e0)
  obtain ⟨kp, kn⟩ := e1.keeps r0 (fun a ha => by rw [List.mem_singleton.mp ha]; exact pF)
  cases kp with
  | @bd _ kk _ h1 h2 h3 h4 =>
    have ek : kk = [] := by
      cases kk with
      | nil => rfl
      | cons a b => simp at h3
    subst ek
    refine ⟨h1, kvs', rfl, ?_, ?_⟩
    · have := congrArg List.length hk
      rw [List.length_map, List.length_map] at this
      omega
    · obtain ⟨p1, p2⟩ := merge_rep (acc := []) (acc' := []) hk hz rfl .nil
      have e2 : VL.Ext Z H F Z1 (upd H1 p (.dK (mergeK [] kvs'))) (F1 ++ [p]) := by
        have a : VL.Ext Z H F Z (upd H p (.dK [])) (F ++ [p]) := st.ext (fun y hy => by rw [List.mem_singleton.mp hy]; exact hp)
        have b : VL.Ext Z1 H1 (F1 ++ [p]) Z1 (upd H1 p (.dK (mergeK [] kvs'))) (F1 ++ [p]) := ⟨.refl _, fun a h => .inl h, fun a o h n => ⟨by rw [upd_ne (fun z => n (by simp [z]))]; exact h, n⟩⟩
        exact (a.tr e1).trans b
      refine k Z1 _ Γ1 F1 (.bd (mergeD kvs)) (.ref p) [p] (same_chg s1 h2) e2 (r1.mono (.refl _) fun y hy => ⟨(r1.foot y hy).1, upd_ne fun z => kn p (by simp) (by rw [← z]; exact hy)⟩) (.bd upd_same h2 p1 p2) (fun y hy => by rw [List.mem_singleton.mp hy]; exact kn p (by simp)) q1
end
end VL
set_option Elab.async false
set_option linter.all false
set_option autoImplicit false
set_option maxRecDepth 100000
set_option maxHeartbeats 4000000
/-! VL18: f-strings. -/
namespace VL
open PySem PySem.Spec PySem.Calls L2
open PyProof.Rows hiding St

theorem strOk_ofString (s : String) : PyData.strOk (Str.ofString s) = true := strOk_iff.mpr fun c hc => by
  have e : (Str.ofString s).cps.toList = s.toList.map Char.toNat := by
    show (cpsOfBytes 0 0 s.toByteArray.data.toList).toArray.toList = _
    rw [cpsOfBytes_string]
  rw [e] at hc
  obtain ⟨ch, _, e⟩ := List.mem_map.mp hc
  rw [← e]
  have h := ch.valid
  have e2 : ch.toNat = ch.val.toNat := rfl
  rcases h with h | ⟨_, h⟩
  · have h' : ch.val.toNat < 55296 := h
    omega
  · have h' : ch.val.toNat < 1114112 := h
    omega
section
variable {X : Cx} {W : WX}
def oFmt : D → (T → Prop) → Prop := fun d R => match d with
  | .str s => s.length ≤ sizeLine ∧ R (.frz (.str s))
  | .int i => i.natAbs.log2 < 1920 ∧ R (.frz (.str (Str.ofString (toString i))))
  | _ => False
theorem ve_fmt {e : Expr} {o : Opr} {pos : Pos} (h : VO X W e o) : VE X W (.FormattedValue e (-1) none pos) (mO1 oFmt o) := by
  obtain ⟨t, pe, sn⟩ := snd_o1 (r := fun x H1 Q => (∃ y : Str, x = .str y ∧ y.length ≤ sizeLine ∧ Q (.str y) H1) ∨ ∃ i : Int, x = .int i ∧ i.natAbs.log2 < 1920 ∧ Q (.str (Str.ofString (toString i))) H1) h (op := oFmt) (fun Z H d v R Q hs w q k => by
    cases d with
    | str s => exact .inl ⟨s, w.strE.1, q.1, k.frz hs (.str _ w.strE.2) q.2⟩
    | int i => exact .inr ⟨i, w.intE, q.1, k.frz hs (.str _ (strOk_ofString _)) q.2⟩
    | _ => exact q.elim)
  exact ⟨_, pe_fmt pe, sn⟩
def mJs : List ME → Str → Sl → (Str → Sl → Prop) → XRl → Prop
  | [], acc, Γ, R, _ => R acc Γ
  | m :: ms, acc, Γ, R, XR => m Γ (fun t Γ' => ∃ y, t = .frz (.str y) ∧ (acc ++ y).length ≤ sizeLine ∧ mJs ms (acc ++ y) Γ' R XR) XR
inductive VJ (X : Cx) (W : WX) : List Expr → List ME → Prop where
  | nil : VJ X W [] []
  | cons {e : Expr} {m : ME} {es : List Expr} {ms : List ME} (h : VE X W e m) (r : VJ X W es ms) : VJ X W (e :: es) (m :: ms)
theorem VJ.snd {es : List Expr} {ms : List ME} (h : VJ X W es ms) : ∃ ts, PJ X es ts ∧ ∀ acc Z H σ Γ F R XR (Q : Str → Hp → Prop), Same Z H → Rsl X.K Z H Γ σ F → PyData.strOk acc = true → mJs ms acc Γ R XR →
    (∀ Z' H' Γ' F' s, Same Z' H' → VL.Ext Z H F Z' H' F' → Rsl X.K Z' H' Γ' σ F' → PyData.strOk s = true → R s Γ' → Q s H') → XOk X.K Z H F σ XR W → tJs ts acc σ H Q := by
  induction h with
  | nil => exact ⟨[], .nil, fun acc Z H σ Γ F R XR Q hs rs ok m k x => k Z H Γ F acc hs (.refl ..) rs ok m⟩
  | @cons e m0 es ms he _ ih =>
    obtain ⟨ts, pj, sn⟩ := ih
    obtain ⟨t, pe, se⟩ := he.ex
    refine ⟨_, .cons pe pj, fun acc Z H σ Γ F R XR Q hs rs ok m k x => ?_⟩
    refine se Z H σ Γ F _ XR _ hs rs m (fun Z1 H1 Γ1 F1 tt v G s1 e1 r1 p1 n1 q1 => ?_) x
    obtain ⟨y, et, hl, q1⟩ := q1
    subst et
    cases p1 with
    | frz rz =>
      cases rz with
      | str _ oky =>
        have e1' := e1.sub fun _ h => List.mem_append_left _ h
        exact ⟨y, rfl, hl, sn (acc ++ y) Z1 H1 σ Γ1 F1 R XR Q s1 r1 (strOk_append ok oky) q1 (fun Z2 H2 Γ2 F2 s s2 e2 r2 ok2 q2 => k Z2 H2 Γ2 F2 s s2 (e1'.trans e2) r2 ok2 q2) (x.step0 e1')⟩
def mJoin (ms : List ME) : ME := fun Γ R XR => mJs ms Str.empty Γ (fun s Γ' => R (.frz (.str s)) Γ') XR
theorem ve_joined {v1 v2 : Expr} {rest : List Expr} {ms : List ME} {pos : Pos} (h : VJ X W (v1 :: v2 :: rest) ms) : VE X W (.JoinedStr (v1 :: v2 :: rest) pos) (mJoin ms) := by
  obtain ⟨ts, pj, sn⟩ := h.snd
  exact ⟨_, pe_joined pj, fun Z H σ Γ F R XR Q hs rs m k x => sn Str.empty Z H σ Γ F _ XR _ hs rs (by decide +kernel) m (fun Z1 H1 Γ1 F1 s s1 e1 r1 ok q1 => (k.step e1).pure s1 r1 (.str s ok) q1) x⟩
theorem ve_joined1 {e : Expr} {m : ME} {pos : Pos} (h : VE X W e m) : VE X W (.JoinedStr [e] pos) m := by
  obtain ⟨t, pe, sn⟩ := h.ex
  exact ⟨_, pe_joined1 pe, sn⟩
end
end VL
set_option Elab.async false
set_option linter.all false
set_option autoImplicit false
set_option maxRecDepth 100000
set_option maxHeartbeats 4000000
/-! VL19: promises by names; loops by invariants. -/
namespace VL
open PySem PySem.Spec PySem.Calls L2
open PyProof.Rows hiding St

/-- a def that keeps its promise -/
def OkF (P : Program) (w : World) (K : PySem.W.Frag) (mg : Str → Option Value) (base : Heap) (lv : Nat) (f : Addr) (ps : List Str) (sp : VSp) : Prop := ∃ fd, FnG P w K mg base lv f fd ps (lift K ps.length sp) ∧ Binds K fd ps []
abbrev OkX (X : Cx) (lv : Nat) (f : Addr) (ps : List Str) (sp : VSp) : Prop := OkF X.prog X.w X.K X.mg X.base lv f ps sp
section
variable {X : Cx} {W : WX} {lv k : Nat} {fa C : Addr} {ps : List Str} {sp : VSp} {nm mt : Str} {p pos apos : Pos} {e o : Expr} {es : List Expr}
theorem ve_callO {g : MG} (F : OkX X lv fa ps sp) (hr : RoomG k X.A) (tk : Takes X W) (hm : X.mg nm = some (.ref fa)) (hk : PySem.W.keepIn X.K (.ref fa) = true) (ha : VG X W (e :: es) g) (hlv : lv ≤ k := by decide) (hg : Gl X nm := by rfl) (hn : (e :: es).length = ps.length := by rfl) (hdb : (nm == ("__debug__" : Str)) = false := by decide)
    (he : starEach (e :: es) X.env = (false, eval e X.env) :: starEach es X.env := by rfl) (hpl : (backTo pos (starEach es X.env)).any (·.1) = false := by rfl) : VE X W (.Call (.Name nm p) (e :: es) [] pos) (mCall sp g) := by
  obtain ⟨fd, F, hb⟩ := F
  exact ve_call F (hr.mono hlv) hg hm hk hb tk ha hn hdb he hpl
theorem ve_callO0 (F : OkX X lv fa ps sp) (hr : RoomG k X.A) (tk : Takes X W) (hm : X.mg nm = some (.ref fa)) (hk : PySem.W.keepIn X.K (.ref fa) = true) (hlv : lv ≤ k := by decide) (hg : Gl X nm := by rfl) (hn : 0 = ps.length := by rfl) (hdb : (nm == ("__debug__" : Str)) = false := by decide) :
    VE X W (.Call (.Name nm p) [] [] pos) (mCall sp g0) := by
  obtain ⟨fd, F, hb⟩ := F
  exact ve_call0 F (hr.mono hlv) hg hm hk hb tk hn hdb
theorem ve_makeO {g : MG} (F : OkX X lv fa ps sp) (M : Mk X.K C fa) (hr : RoomG k X.A) (tk : Takes X W) (hm : X.mg nm = some (.ref C)) (ha : VG X W (e :: es) g) (hlv : lv + 1 ≤ k := by decide) (hg : Gl X nm := by rfl) (hn : (e :: es).length + 1 = ps.length := by rfl) (hdb : (nm == ("__debug__" : Str)) = false := by decide)
    (he : starEach (e :: es) X.env = (false, eval e X.env) :: starEach es X.env := by rfl) (hpl : (backTo pos (starEach es X.env)).any (·.1) = false := by rfl) : VE X W (.Call (.Name nm p) (e :: es) [] pos) (mMake C sp g) := by
  obtain ⟨fd, F, hb⟩ := F
  exact ve_make M F (hr.mono hlv) hg hm hb tk ha hn hdb he hpl
end
/-! ### rooms as the rules ask them -/
theorem RoomG.u1 {k : Nat} {A : Around} (r : RoomG k A) : A.units + 1 < cLine := by have := r.room.un; omega
theorem RoomG.u64 {k : Nat} {A : Around} (r : RoomG k A) : A.units + 64 < cLine := by have := r.room.un; omega
theorem RoomG.u65 {k : Nat} {A : Around} (r : RoomG k A) : A.units + 65 < cLine := by have := r.room.un; omega
theorem RoomG.z {k : Nat} {A : Around} (r : RoomG k A) : RoomG 0 A := r.mono (Nat.zero_le _)
def oMulA : D → D → (T → Prop) → Prop := fun d e R => oMul d e R ∨ oMulS d e R
theorem ov_mulA {X : Cx} : OpV X (binaryOp .Mult) oMulA := ov_mul.or ov_mulS
/-! ### the boot's names -/
theorem bt_len : bootBuiltins ("len" : Str) = some (.builtin "len") := by kernel_rfl
theorem bt_abs : bootBuiltins ("abs" : Str) = some (.builtin "abs") := by kernel_rfl
theorem bt_all : bootBuiltins ("all" : Str) = some (.builtin "all") := by kernel_rfl
theorem bt_any : bootBuiltins ("any" : Str) = some (.builtin "any") := by kernel_rfl
theorem bt_isinstance : bootBuiltins ("isinstance" : Str) = some (.builtin "isinstance") := by kernel_rfl
theorem bt_int : bootBuiltins ("int" : Str) = some (.type "int") := by kernel_rfl
theorem bt_str : bootBuiltins ("str" : Str) = some (.type "str") := by kernel_rfl
theorem bt_list : bootBuiltins ("list" : Str) = some (.type "list") := by kernel_rfl
theorem bt_tuple : bootBuiltins ("tuple" : Str) = some (.type "tuple") := by kernel_rfl
theorem bt_ValueError : bootBuiltins ("ValueError" : Str) = some (.type "ValueError") := by kernel_rfl
/-! ### constants of the module -/
theorem ve_gint {X : Cx} {W : WX} {x : Str} {i : Int} {pos : Pos} (hm : ∃ t, X.mg x = some (.int i t)) (hg : Gl X x := by rfl) (hd : (x == ("__debug__" : Str)) = false := by decide) : VE X W (.Name x pos) (mC (.int i)) := by
  obtain ⟨t, hm⟩ := hm
  exact ve_glob hg hm (v := .int i) ⟨t, rfl⟩ (fun _ => .int i) hd
theorem ve_gstr {X : Cx} {W : WX} {x z : Str} {pos : Pos} (hm : ∃ t, X.mg x = some (.str z t)) (hz : PyData.strOk z = true := by decide +kernel) (hg : Gl X x := by rfl) (hd : (x == ("__debug__" : Str)) = false := by decide) : VE X W (.Name x pos) (mC (.str z)) := by
  obtain ⟨t, hm⟩ := hm
  exact ve_glob hg hm (v := .str z) ⟨t, rfl⟩ (fun _ => .str z hz) hd
/-- a tuple of texts -/
theorem ve_gtup {X : Cx} {W : WX} {x : Str} {zs : List Str} {a : Addr} {pos : Pos} (hm : X.mg x = some (.ref a) ∧ ∀ H, SqT X.K H a (zs.map V.str)) (hz : zs.all PyData.strOk = true := by decide +kernel) (hg : Gl X x := by rfl) (hd : (x == ("__debug__" : Str)) = false := by decide) : VE X W (.Name x pos) (mC (.tup (zs.map D.str))) :=
  ve_glob hg hm.1 (v := .ref a) rfl (fun Z => .tup (hm.2 Z) (.ofStrs zs fun z hzz => List.all_eq_true.mp hz z hzz)) hd
/-- a class of the module -/
theorem ve_gcls {X : Cx} {W : WX} {x : Str} {C : Addr} {pos : Pos} (hm : X.mg x = some (.ref C)) (hg : Gl X x := by rfl) (hd : (x == ("__debug__" : Str)) = false := by decide) : VE X W (.Name x pos) (mC (.ref C)) :=
  ve_glob hg hm (v := .ref C) rfl (fun _ => .ref C) hd
/-! ### what a suite asks, whatever the class -/
theorem pe_no {X : Cx} {e : Expr} : PE X e (fun _ _ _ => False) := ⟨fun _ _ _ _ _ _ h => h.elim⟩
def mXF (K : PySem.W.Frag) (i : Nat) (f : Str) (a C : Addr) (d : Option Addr) : ME := fun Γ R _ => (XfC K C ∧ PySem.W.findIn K (.ref C) f = some none) ∧ ∃ fs dv, Γ[i]? = some (some (.frz (.exc a C d fs))) ∧ fs.lookup f = some dv ∧ R (.frz dv) Γ
def mXI (K : PySem.W.Frag) (i : Nat) (cv : Value) (a C : Addr) (d : Option Addr) : ME := fun Γ R _ => ∃ b, (ExcC K C ∧ PySem.W.kitOne K (.ref C) cv = some b) ∧ (∃ fs, Γ[i]? = some (some (.frz (.exc a C d fs)))) ∧ R (.frz (.bl b)) Γ
section
variable {X : Cx} {W : WX} {a C : Addr} {oe : Obj} {d : Option Addr} {pn : List (Addr × Obj)}
theorem ve_XF (i : Nat) {x f : Str} {px pos : Pos} (hz : Zc (.ref C) d oe) (hf : ∃ vs, oe.data = .fields vs) (hN : X.N[i]? = some x := by rfl) (hv : Vis X.env.scope x := by first | exact Or.inl rfl | exact Or.inr (Or.inl rfl) | exact Or.inr (Or.inr rfl)) (hd : (x == ("__debug__" : Str)) = false := by decide) (hcd : (x == ("__classdict__" : Str)) = false := by decide)
    (hb : attributeBase (.Name x px) f X.env (eval (.Name x px) X.env) = eval (.Name x px) X.env := by rfl) : VE (X.suite a ((a, oe) :: pn)) W (.Attribute (.Name x px) f pos) (mXF X.K i f a C d) := by
  by_cases h : XfC X.K C ∧ PySem.W.findIn X.K (.ref C) f = some none
  · obtain ⟨t, pe, sn⟩ := (ve_xf (W := W) (pos := pos) i hz hf h.1 h.2 hN hv hd hcd hb).ex
    exact ⟨t, pe, fun Z H σ Γ F R XR Q hs rs m k x => sn Z H σ Γ F R XR Q hs rs m.2 k x⟩
  · exact ⟨_, pe_no, fun Z H σ Γ F R XR Q hs rs m k x => h m.1⟩
theorem ve_XI (i : Nat) {x : Str} {px p pos : Pos} {c : V} {cv : Value} {ce : Expr} (hz : Zc (.ref C) d oe) (hf : ∃ vs, oe.data = .fields vs) (hc : PE (X.suite a ((a, oe) :: pn)) ce (tC c)) (hcv : ClsV c cv) (hm : X.mg "isinstance" = none) (hg : Gl X "isinstance" := by rfl)
    (hN : X.N[i]? = some x := by rfl) (hv : Vis X.env.scope x := by first | exact Or.inl rfl | exact Or.inr (Or.inl rfl) | exact Or.inr (Or.inr rfl)) (hd : (x == ("__debug__" : Str)) = false := by decide) (hcd : (x == ("__classdict__" : Str)) = false := by decide)
    (hs1 : starEach [.Name x px, ce] X.env = (false, eval (.Name x px) X.env) :: starEach [ce] X.env := by rfl) (hs2 : starEach [ce] X.env = (false, eval ce X.env) :: starEach [] X.env := by rfl) (hpl : (backTo pos (starEach [ce] X.env)).any (·.1) = false := by rfl) :
    VE (X.suite a ((a, oe) :: pn)) W (.Call (.Name "isinstance" p) [.Name x px, ce] [] pos) (mXI X.K i cv a C d) := by
  by_cases h : ∃ b, ExcC X.K C ∧ PySem.W.kitOne X.K (.ref C) cv = some b
  · obtain ⟨b, h1, h2⟩ := h
    obtain ⟨t, pe, sn⟩ := (ve_xi (W := W) (p := p) (pos := pos) i h1 hz hf hc hcv h2 hg hm hN hv hd hcd hs1 hs2 hpl bt_isinstance).ex
    refine ⟨t, pe, fun Z H σ Γ F R XR Q hs rs m k x => ?_⟩
    obtain ⟨b2, h3, q⟩ := m
    have e : b2 = b := Option.some.inj (h3.2.symm.trans h2)
    subst e
    exact sn Z H σ Γ F R XR Q hs rs q k x
  · exact ⟨_, pe_no, fun Z H σ Γ F R XR Q hs rs ⟨b, m, _⟩ k x => h ⟨b, m⟩⟩
end
/-! ### loops -/
theorem forL_inv {g : MG1} {b : MS} {M : VEnds} (I : List D → Sl → Prop) (step : ∀ d ds Γ (N : Sl → Prop), I (d :: ds) Γ → (∀ Γ', I ds Γ' → N Γ') → g d Γ fun Γ' => b Γ' { M with nx := N, ct := N, bk := M.nx }) (last : ∀ Γ, I [] Γ → M.nx Γ) : ∀ ds Γ, I ds Γ → forL g b M ds Γ
  | [], Γ, h => last Γ h
  | d :: ds, Γ, h => step d ds Γ _ h fun Γ' h' => forL_inv I step last ds Γ' h'
theorem lcL_inv {g : MG1} {tt : MT} {te : ME} {vs : List Nat} {R : List D → Sl → Prop} (I : List D → List D → Sl → Prop)
    (step : ∀ d ds acc Γ (N : List D → Sl → Prop), I (d :: ds) acc Γ → (∀ acc' Γ', I ds acc' (wipeS Γ' vs) → N acc' (wipeS Γ' vs)) → g d Γ fun Γ1 => tt Γ1 (fun b Γ2 => if b = true then te Γ2 (fun t Γ3 => acc.length < sizeLine ∧ N (acc ++ [t.toD]) (wipeS Γ3 vs)) noX else N acc (wipeS Γ2 vs)) noX)
    (last : ∀ acc Γ, I [] acc Γ → R acc Γ) : ∀ ds acc Γ, I ds acc Γ → lcL g tt te vs R ds acc Γ
  | [], acc, Γ, h => last acc Γ h
  | d :: ds, acc, Γ, h => step d ds acc Γ _ h fun acc' Γ' h' => lcL_inv I step last ds acc' _ h'
end VL
set_option Elab.async false
set_option linter.all false
set_option autoImplicit false
set_option maxRecDepth 100000
set_option maxHeartbeats 4000000
/-! VL20: own exceptions and own == by their promises. -/
namespace VL
open PySem PySem.Spec PySem.Calls L2
open PyProof.Rows hiding St

/-- an own exception's __init__ that keeps its promise -/
def OkE (P : Program) (w : World) (K : PySem.W.Frag) (mg : Str → Option Value) (base : Heap) (lv : Nat) (f : Addr) (ps : List Str) (n : Nat) (C : Addr) (ok : List D → (List (Str × D) → Prop) → Prop) : Prop := ∃ fd, FnOk P w K mg base (L2.CX P w) lv f fd ps (spX K n C ok) ∧ Binds K fd ps []
/-- the class at C, its __init__ at fI -/
structure XcC (K : PySem.W.Frag) (C fI : Addr) : Prop where
  oex : OexC K C
  ini : PySem.W.findIn K (.ref C) "__init__" = some (some (.ref fI))
  fn : PySem.W.typeIn K (.ref fI) = some (.type "function")
/-- the class at C, its == at g -/
structure EqC (K : PySem.W.Frag) (C g : Addr) : Prop where
  eq : PySem.W.findIn K (.ref C) "__eq__" = some (some (.ref g))
  fn : PySem.W.isFn K (.ref g) = true
  ne : PySem.W.findIn K (.ref C) "__ne__" = some (some (.builtin "object.__ne__"))
  mro : PySem.W.mroIn K C (.type "object") = some true
section
variable {X : Cx} {W : WX} {lv k n : Nat} {fI C g : Addr} {ps : List Str} {x : Str} {p pos : Pos} {e : Expr} {es : List Expr} {ok : List D → (List (Str × D) → Prop) → Prop} {sp : VSp}
theorem vx_mkO {a : MA} (o : OkE X.prog X.w X.K X.mg X.base lv fI ps n C ok) (c : XcC X.K C fI) (hr : RoomG k X.A) (hm : X.mg x = some (.ref C)) (ha : VA X W (e :: es) a) (hlv : lv + 1 ≤ k := by decide) (hg : Gl X x := by rfl) (hes : es.length < 1000 := by decide)
    (hdb : (x == ("__debug__" : Str)) = false := by decide) (he : starEach (e :: es) X.env = (false, eval e X.env) :: starEach es X.env := by rfl) (hpl : (backTo pos (starEach es X.env)).any (·.1) = false := by rfl) : VMx X W (.Call (.Name x p) (e :: es) [] pos) (mxC C n ok a) := by
  obtain ⟨fd, F, hb⟩ := o
  exact vx_mk c.oex c.ini c.fn F (hr.room.mono hlv) hb hg hm ha hes hdb he hpl
theorem ov_ownO (o : OkX X lv g ps sp) (c : EqC X.K C g) (hr : RoomG lv X.A) (hp : 2 = ps.length := by rfl) : OpV X (compareOp .Eq) (oOwn X.K [C] sp) := by
  obtain ⟨fd, F, hb⟩ := o
  exact ov_own (fun _ _ => rfl) F hr hb hp c.eq c.fn
theorem ov_ownNeO (o : OkX X lv g ps sp) (c : EqC X.K C g) (hr : RoomG (lv + 1) X.A) (hp : 2 = ps.length := by rfl) : OpV X (compareOp .NotEq) (oOwnNe X.K [C] sp) := by
  obtain ⟨fd, F, hb⟩ := o
  exact ov_ownNe F hr hb hp c.ne c.mro c.eq c.fn
end
end VL
set_option Elab.async false
set_option linter.all false
set_option autoImplicit false
set_option maxRecDepth 100000
set_option maxHeartbeats 4000000
/-! VL21: the combinators' equations, for simp. -/
namespace VL
open PySem PySem.Spec PySem.Calls L2
open PyProof.Rows hiding St

section
variable {Γ : Sl} {R : T → Sl → Prop} {XR : XRl} {i j : Nat} {m n : ME} {M : VEnds} {t : T} {d e : D}
/-! ### slots -/
@[simp] theorem x_slT0 {k : T → Prop} : slT (some t :: Γ) 0 k = k t := rfl
@[simp] theorem x_slTs {x : Option T} {k : T → Prop} : slT (x :: Γ) (i + 1) k = slT Γ i k := by unfold slT; rw [List.getElem?_cons_succ]
theorem x_slVT {k : D → Prop} : slV Γ i k = slT Γ i fun t => t.vw k := rfl
@[simp] theorem x_slV0 {k : D → Prop} : slV (some t :: Γ) 0 k = t.vw k := rfl
@[simp] theorem x_slVs {x : Option T} {k : D → Prop} : slV (x :: Γ) (i + 1) k = slV Γ i k := by unfold slV; rw [List.getElem?_cons_succ]
@[simp] theorem x_vwF {k : D → Prop} : (T.frz d).vw k = k d := rfl
@[simp] theorem x_vwL {ds : List D} {k : D → Prop} : (T.bl ds).vw k = k (.lst ds) := rfl
@[simp] theorem x_vwD {kvs : List (Key × D)} {k : D → Prop} : (T.bd kvs).vw k = k (.dct kvs) := rfl
@[simp] theorem x_toF : (T.frz d).toD = d := by simp [T.toD]
@[simp] theorem x_toL {ds : List D} : (T.bl ds).toD = .lst ds := by simp [T.toD]
@[simp] theorem x_toB {kvs : List (Key × D)} : (T.bd kvs).toD = .dct kvs := by simp [T.toD]
/-- a bool, an int, a text, data -/
def T.tB (t : T) (k : Bool → Prop) : Prop := match t with
  | .frz (.bl b) => k b
  | _ => False
@[simp] theorem x_tB {b : Bool} {k : Bool → Prop} : (T.frz (.bl b)).tB k = k b := rfl
theorem tB_eq {k : Bool → Prop} : (∃ b, t = .frz (.bl b) ∧ k b) = t.tB k := by
  apply propext
  constructor
  · rintro ⟨b, rfl, h⟩; exact h
  · intro h
    cases t with
    | frz d => cases d with
      | bl b => exact ⟨b, rfl, h⟩
      | _ => exact h.elim
    | _ => exact h.elim
def D.dI (d : D) (k : Int → Prop) : Prop := match d with
  | .int i => k i
  | _ => False
@[simp] theorem x_dI {i : Int} {k : Int → Prop} : (D.int i).dI k = k i := rfl
theorem dI_eq {k : Int → Prop} : (∃ i, d = .int i ∧ k i) = d.dI k := by
  apply propext
  constructor
  · rintro ⟨b, rfl, h⟩; exact h
  · intro h
    cases d with
    | int b => exact ⟨b, rfl, h⟩
    | _ => exact h.elim
def T.tS (t : T) (k : Str → Prop) : Prop := match t with
  | .frz (.str b) => k b
  | _ => False
@[simp] theorem x_tS {b : Str} {k : Str → Prop} : (T.frz (.str b)).tS k = k b := rfl
theorem tS_eq {k : Str → Prop} : (∃ b, t = .frz (.str b) ∧ k b) = t.tS k := by
  apply propext
  constructor
  · rintro ⟨b, rfl, h⟩; exact h
  · intro h
    cases t with
    | frz d => cases d with
      | str b => exact ⟨b, rfl, h⟩
      | _ => exact h.elim
    | _ => exact h.elim
def T.tI (t : T) (k : Int → Prop) : Prop := match t with
  | .frz (.int b) => k b
  | _ => False
@[simp] theorem x_tI {b : Int} {k : Int → Prop} : (T.frz (.int b)).tI k = k b := rfl
theorem tI_eq {k : Int → Prop} : (∃ b, t = .frz (.int b) ∧ k b) = t.tI k := by
  apply propext
  constructor
  · rintro ⟨b, rfl, h⟩; exact h
  · intro h
    cases t with
    | frz d => cases d with
      | int b => exact ⟨b, rfl, h⟩
      | _ => exact h.elim
    | _ => exact h.elim
/-! ### expressions -/
@[simp] theorem x_c : mC d Γ R XR = R (.frz d) Γ := rfl
@[simp] theorem x_nm : mNm i Γ R XR = slT Γ i fun t => R (.frz t.toD) (Γ.set i (some (.frz t.toD))) := by
  apply propext
  unfold mNm slT
  constructor
  · rintro ⟨t, e, h⟩; rw [e]; exact h
  · intro h
    split at h
    · exact ⟨_, by assumption, h⟩
    · exact h.elim
@[simp] theorem x_mv : mMv i Γ R XR = slT Γ i fun t => R t (Γ.set i none) := by
  apply propext
  unfold mMv slT
  constructor
  · rintro ⟨t, e, h⟩; rw [e]; exact h
  · intro h
    split at h
    · exact ⟨_, by assumption, h⟩
    · exact h.elim
@[simp] theorem x_frz : mFrz m Γ R XR = m Γ (fun t Γ' => R (.frz t.toD) Γ') XR := rfl
@[simp] theorem x_a0 {R : List T → Sl → Prop} : mA0 Γ R XR = R [] Γ := rfl
@[simp] theorem x_ac {r : MA} {R : List T → Sl → Prop} : mAc m r Γ R XR = m Γ (fun t Γ1 => r Γ1 (fun ts Γ2 => R (t :: ts) Γ2) XR) XR := rfl
@[simp] theorem x_tup {g : MA} : mTup g Γ R XR = g Γ (fun ts Γ' => R (.frz (.tup (ts.map T.toD))) Γ') XR := rfl
@[simp] theorem x_lst {g : MA} : mLst g Γ R XR = g Γ (fun ts Γ' => R (.bl (ts.map T.toD)) Γ') XR := rfl
@[simp] theorem x_o1n {op : D → (T → Prop) → Prop} : mO1 op (.nm i) Γ R XR = slV Γ i fun d => op d fun t => R t Γ := rfl
@[simp] theorem x_o1e {op : D → (T → Prop) → Prop} : mO1 op (.ex m) Γ R XR = m Γ (fun t Γ' => t.vw fun d => op d fun t => R t Γ') XR := rfl
@[simp] theorem x_o2nn {op : D → D → (T → Prop) → Prop} : mO2 op (.nm i) (.nm j) Γ R XR = slV Γ i fun d => slV Γ j fun e => op d e fun t => R t Γ := rfl
@[simp] theorem x_o2ne {op : D → D → (T → Prop) → Prop} : mO2 op (.nm i) (.ex m) Γ R XR = (slV Γ i (fun _ => True) ∧ m Γ (fun t Γ' => t.vw fun e => slV Γ' i fun d => op d e fun t => R t Γ') XR) := rfl
@[simp] theorem x_o2en {op : D → D → (T → Prop) → Prop} : mO2 op (.ex m) (.nm j) Γ R XR = m Γ (fun t Γ' => t.vw fun d => slV Γ' j fun e => op d e fun t => R t Γ') XR := rfl
@[simp] theorem x_o2ee {op : D → D → (T → Prop) → Prop} : mO2 op (.ex m) (.ex n) Γ R XR = m Γ (fun t Γ1 => n Γ1 (fun t' Γ2 => t'.vw fun e => t.vw fun d => op d e fun t => R t Γ2) XR) XR := rfl
@[simp] theorem x_tst {R : Bool → Sl → Prop} : mTst m Γ R XR = m Γ (fun t Γ' => t.tB fun b => R b Γ') XR := by unfold mTst; simp only [tB_eq]
@[simp] theorem x_truN {R : Bool → Sl → Prop} : mTru (.nm i) Γ R XR = slV Γ i fun d => d.tru fun b => R b Γ := rfl
@[simp] theorem x_truE {R : Bool → Sl → Prop} : mTru (.ex m) Γ R XR = m Γ (fun t Γ' => t.vw fun d => d.tru fun b => R b Γ') XR := rfl
@[simp] theorem x_truB {b : Bool} {k : Bool → Prop} : (D.bl b).tru k = k b := rfl
@[simp] theorem x_not {m : MT} {R : Bool → Sl → Prop} : mNot m Γ R XR = m Γ (fun b Γ' => R (!b) Γ') XR := rfl
@[simp] theorem x_and {m n : MT} {R : Bool → Sl → Prop} : mAnd m n Γ R XR = m Γ (fun b Γ' => if b = true then n Γ' R XR else R false Γ') XR := rfl
@[simp] theorem x_or {m n : MT} {R : Bool → Sl → Prop} : mOr m n Γ R XR = m Γ (fun b Γ' => if b = true then R true Γ' else n Γ' R XR) XR := rfl
@[simp] theorem x_andV : mAndV m n Γ R XR = m Γ (fun t Γ' => t.tB fun b => if b = true then n Γ' R XR else R (.frz (.bl false)) Γ') XR := by unfold mAndV; simp only [tB_eq]
@[simp] theorem x_orV : mOrV m n Γ R XR = m Γ (fun t Γ' => t.tB fun b => if b = true then R (.frz (.bl true)) Γ' else n Γ' R XR) XR := by unfold mOrV; simp only [tB_eq]
@[simp] theorem x_notV : mNotV m Γ R XR = m Γ (fun t Γ' => t.tB fun b => R (.frz (.bl (!b))) Γ') XR := by unfold mNotV; simp only [tB_eq]
@[simp] theorem x_ifE {c : MT} : mIfE c m n Γ R XR = c Γ (fun b Γ' => if b = true then m Γ' R XR else n Γ' R XR) XR := rfl
@[simp] theorem x_no {R : Option Int → Sl → Prop} : mNo Γ R XR = R none Γ := rfl
@[simp] theorem x_so {R : Option Int → Sl → Prop} : mSo m Γ R XR = m Γ (fun t Γ' => t.tI fun i => R (some i) Γ') XR := by unfold mSo; simp only [tI_eq]
@[simp] theorem x_slcN {op : D → Option Int → Option Int → (T → Prop) → Prop} {lo hi : MO} : mSlc op (.nm i) lo hi Γ R XR = (slV Γ i (fun _ => True) ∧ lo Γ (fun a Γ1 => hi Γ1 (fun b Γ2 => slV Γ2 i fun d => op d a b fun t => R t Γ2) XR) XR) := rfl
@[simp] theorem x_slcE {op : D → Option Int → Option Int → (T → Prop) → Prop} {lo hi : MO} : mSlc op (.ex m) lo hi Γ R XR = m Γ (fun t Γ1 => lo Γ1 (fun a Γ2 => hi Γ2 (fun b Γ3 => t.vw fun d => op d a b fun t => R t Γ3) XR) XR) XR := rfl
@[simp] theorem x_str1 {op : Str → List D → (T → Prop) → Prop} : mStr1 op m n Γ R XR = m Γ (fun t Γ1 => t.tS fun s => n Γ1 (fun te Γ2 => op s [te.toD] fun t' => R t' Γ2) XR) XR := by unfold mStr1; simp only [tS_eq]
@[simp] theorem x_chain {o o' : D → D → (T → Prop) → Prop} {ma mb mc : ME} : mChain o o' ma mb mc Γ R XR = ma Γ (fun ta Γ1 => mb Γ1 (fun tb Γ2 => o ta.toD tb.toD fun t => t.tB fun k => if k = true then mc Γ2 (fun tc Γ3 => o' tb.toD tc.toD fun t => R t Γ3) XR else R (.frz (.bl false)) Γ2) XR) XR := by unfold mChain; simp only [tB_eq]
@[simp] theorem x_mut {isTy : T → Prop} {op : T → List D → (D → T → Prop) → Prop} {g : MA} : mMut i isTy op g Γ R XR = (slT Γ i isTy ∧ g Γ (fun ts Γ' => slT Γ' i fun t => op t (ts.map T.toD) fun d t' => R (.frz d) (Γ'.set i (some t'))) XR) := rfl
@[simp] theorem x_isBl {ds : List D} : (T.bl ds).isBl = True := rfl
@[simp] theorem x_call {sp : VSp} {g : MG} : mCall sp g Γ R XR = g Γ (fun as Γ' => call1 sp as Γ' R XR) XR := rfl
@[simp] theorem x_g0 {R : List AV → Sl → Prop} : g0 Γ R XR = R [] Γ := rfl
@[simp] theorem x_gE {r : MG} {R : List AV → Sl → Prop} : gE m r Γ R XR = m Γ (fun t Γ1 => r Γ1 (fun as Γ2 => R (.tm t :: as) Γ2) XR) XR := rfl
@[simp] theorem x_gN {r : MG} {R : List AV → Sl → Prop} : gN i r Γ R XR = (slT Γ i (fun _ => True) ∧ r Γ (fun as Γ' => R (.io i :: as) Γ') XR) := by
  unfold gN slT
  apply propext
  constructor
  · rintro ⟨⟨t, e⟩, h⟩; rw [e]; exact ⟨trivial, h⟩
  · rintro ⟨h, h2⟩
    split at h
    · exact ⟨⟨_, by assumption⟩, h2⟩
    · exact h.elim
@[simp] theorem x_call1 {sp : VSp} {as : List AV} : call1 sp as Γ R XR = argT as Γ fun ts => sp ts (fun r Γp => R r (wb as Γp (clr as Γ))) (fun C fs Γp => XR C fs (wb as Γp (clr as Γ))) := rfl
@[simp] theorem x_arg0 {k : List T → Prop} : argT [] Γ k = k [] := rfl
@[simp] theorem x_argI {as : List AV} {k : List T → Prop} : argT (.io i :: as) Γ k = slT Γ i fun t => argT as (Γ.set i none) fun ts => k (t :: ts) := rfl
@[simp] theorem x_argT {as : List AV} {k : List T → Prop} : argT (.tm t :: as) Γ k = argT as Γ fun ts => k (.frz t.toD :: ts) := rfl
@[simp] theorem x_clr0 : clr [] Γ = Γ := rfl
@[simp] theorem x_clrI {as : List AV} : clr (.io i :: as) Γ = clr as (Γ.set i none) := rfl
@[simp] theorem x_clrT {as : List AV} : clr (.tm t :: as) Γ = clr as Γ := rfl
@[simp] theorem x_wb0 {Γp : Sl} : wb [] Γp Γ = Γ := by cases Γp <;> rfl
@[simp] theorem x_wbI {as : List AV} {x : Option T} {Γp : Sl} : wb (.io i :: as) (x :: Γp) Γ = wb as Γp (Γ.set i x) := rfl
@[simp] theorem x_wbT {as : List AV} {x : Option T} {Γp : Sl} : wb (.tm t :: as) (x :: Γp) Γ = wb as Γp Γ := rfl
/-! ### statements -/
@[simp] theorem x_seq {a b : MS} : sSeq a b Γ M = a Γ { M with nx := fun Γ' => b Γ' M } := rfl
@[simp] theorem x_nil : sNil Γ M = M.nx Γ := rfl
@[simp] theorem x_brk : sBrk Γ M = M.bk Γ := rfl
@[simp] theorem x_cnt : sCnt Γ M = M.ct Γ := rfl
@[simp] theorem x_exp : sExp m Γ M = m Γ (fun _ Γ' => M.nx Γ') M.xr := rfl
@[simp] theorem x_ret : sRet m Γ M = m Γ (fun t Γ' => M.rt t Γ') M.xr := rfl
@[simp] theorem x_retN : sRetN Γ M = M.rt (.frz .non) Γ := rfl
@[simp] theorem x_if {c : MT} {a b : MS} : sIf c a b Γ M = c Γ (fun k Γ' => if k = true then a Γ' M else b Γ' M) M.xr := rfl
@[simp] theorem x_set : sSet i m Γ M = m Γ (fun t Γ' => i < Γ'.length ∧ M.nx (Γ'.set i (some t))) M.xr := rfl
@[simp] theorem x_asg {g : MG1} : sAsg m g Γ M = m Γ (fun t Γ' => g t.toD Γ' M.nx) M.xr := rfl
@[simp] theorem x_tN {R : Sl → Prop} : tN i d Γ R = (i < Γ.length ∧ R (Γ.set i (some (.frz d)))) := rfl
@[simp] theorem x_tTup {n : Nat} {gs : List D → Sl → (Sl → Prop) → Prop} {ds : List D} {R : Sl → Prop} : tTup n gs (.tup ds) Γ R = (ds.length = n ∧ gs ds Γ R) := by
  unfold tTup
  apply propext
  constructor
  · rintro ⟨_, e, h⟩; cases e; exact h
  · intro h; exact ⟨_, rfl, h⟩
@[simp] theorem x_tCons {g : MG1} {gs : List D → Sl → (Sl → Prop) → Prop} {ds : List D} {R : Sl → Prop} : VL.tCons g gs (d :: ds) Γ R = g d Γ fun Γ' => gs ds Γ' R := by
  unfold VL.tCons
  apply propext
  constructor
  · rintro ⟨_, _, e, h⟩; cases e; exact h
  · intro h; exact ⟨_, _, rfl, h⟩
@[simp] theorem x_tNil {R : Sl → Prop} : VL.tNil [] Γ R = R Γ := by simp [VL.tNil]
@[simp] theorem x_tSub {op : T → D → D → (T → Prop) → Prop} {R : Sl → Prop} : VL.tSub i op m d Γ R = (slT Γ i (fun _ => True) ∧ m Γ (fun ti Γ' => slT Γ' i fun t => op t ti.toD d fun t' => R (Γ'.set i (some t'))) noX) := rfl
@[simp] theorem x_par {g : MA} : sPar i j g Γ M = g Γ (fun ts Γ' => ∃ a b, ts = [a, b] ∧ i < Γ'.length ∧ j < Γ'.length ∧ M.nx ((Γ'.set i (some a)).set j (some b))) M.xr := rfl
@[simp] theorem x_for {mi : MI} {g : MG1} {b : MS} : sFor mi g b Γ M = mi Γ (fun ds Γ' => forL g b M ds Γ') M.xr := rfl
end
/-! ### operators at constructors -/
section
variable {R : T → Prop}
theorem x_int {C : Int → Int → Prop} {g : Int → Int → Int} {i j : Int} : oInt C g (.int i) (.int j) R = (C i j ∧ R (.frz (.int (g i j)))) := by simp [oInt]
@[simp] theorem x_sub {i j : Int} : oSub (.int i) (.int j) R = R (.frz (.int (i - j))) := by simp [oSub, x_int]
@[simp] theorem x_fdiv {i j : Int} : oFdiv (.int i) (.int j) R = (CDivW i j ∧ R (.frz (.int (i / j)))) := x_int
@[simp] theorem x_mod {i j : Int} : oMod (.int i) (.int j) R = (0 < j ∧ R (.frz (.int (i % j)))) := x_int
@[simp] theorem x_pow {i j : Int} : oPow (.int i) (.int j) R = (CPow i j ∧ R (.frz (.int (i ^ j.toNat)))) := x_int
@[simp] theorem x_ib {g : Int → Int → Bool} {i j : Int} : oIB g (.int i) (.int j) R = R (.frz (.bl (g i j))) := by simp [oIB]
@[simp] theorem x_addI {i j : Int} : oAdd (.int i) (.int j) R = R (.frz (.int (i + j))) := by simp [oAdd, oInt, oAddStr, oCat, oCatT]
@[simp] theorem x_addS {a b : Str} : oAdd (.str a) (.str b) R = (a.length + b.length ≤ sizeLine ∧ R (.frz (.str (a ++ b)))) := by simp [oAdd, oInt, oAddStr, oCat, oCatT]
@[simp] theorem x_addL {a b : List D} : oAdd (.lst a) (.lst b) R = (a.length + b.length ≤ sizeLine ∧ R (.bl (a ++ b))) := by simp [oAdd, oInt, oAddStr, oCat, oCatT]
@[simp] theorem x_mulI {i j : Int} : oMulA (.int i) (.int j) R = (CMulW i j ∧ R (.frz (.int (i * j)))) := by simp [oMulA, oMul, oInt, oRep, oMulS]
@[simp] theorem x_mulS {s : Str} {j : Int} : oMulA (.str s) (.int j) R = (MulOk s j ∧ PyData.strOk (Txt.mul s j) = true ∧ R (.frz (.str (Txt.mul s j)))) := by simp [oMulA, oMul, oInt, oRep, oMulS]
@[simp] theorem x_mulL {a : List D} {k : Int} : oMulA (.lst a) (.int k) R = (-(2 ^ 63) ≤ k ∧ k < 2 ^ 63 ∧ a.length * k.toNat ≤ sizeLine ∧ R (.bl (List.replicate k.toNat a).flatten)) := by simp [oMulA, oMul, oInt, oRep, oMulS]
@[simp] theorem x_neg {i : Int} : oNeg (.int i) R = R (.frz (.int (-i))) := by simp [oNeg]
@[simp] theorem x_lenS {s : Str} : oLen (.str s) R = (s.length ≤ sizeLine ∧ R (.frz (.int s.length))) := rfl
@[simp] theorem x_lenL {ds : List D} : oLen (.lst ds) R = R (.frz (.int ds.length)) := rfl
@[simp] theorem x_lenT {ds : List D} : oLen (.tup ds) R = R (.frz (.int ds.length)) := rfl
@[simp] theorem x_int1 {i : Int} : oInt1 (.int i) R = R (.frz (.int i)) := rfl
@[simp] theorem x_int1b {b : Bool} : oInt1 (.bl b) R = R (.frz (.int (if b = true then 1 else 0))) := rfl
@[simp] theorem x_abs {i : Int} : oAbs (.int i) R = R (.frz (.int (if i < 0 then -i else i))) := by simp [oAbs]
@[simp] theorem x_listL {ds : List D} : oListOf (.lst ds) R = R (.bl ds) := rfl
@[simp] theorem x_listT {ds : List D} : oListOf (.tup ds) R = R (.bl ds) := rfl
@[simp] theorem x_tupL {ds : List D} : oTupOf (.lst ds) R = R (.frz (.tup ds)) := rfl
@[simp] theorem x_tupT {ds : List D} : oTupOf (.tup ds) R = R (.frz (.tup ds)) := rfl
@[simp] theorem x_ixD {kvs : List (Key × D)} {k : Str} : oIx (.dct kvs) (.str k) R = ∃ x, look kvs (.inr k) = some x ∧ R (.frz x) := by simp [oIx, oIxL, oIxT, oIxS, oIxR, oIxD, D.key]
@[simp] theorem x_ixL {ds : List D} {i : Int} : oIx (.lst ds) (.int i) R = ∃ x, atI ds i = some x ∧ R (.frz x) := by simp [oIx, oIxL, oIxT, oIxS, oIxR, oIxD]
@[simp] theorem x_slL {ds : List D} {lo hi : Option Int} : oSl (.lst ds) lo hi R = R (.bl (cutL ds lo hi)) := by simp [oSl, oSlL, oSlT, oSlS, oSlR]
@[simp] theorem x_slR {ns : List Int} {lo hi : Option Int} : oSl (.scr ns) lo hi R = R (.bl ((cutL ns lo hi).map D.int)) := by simp [oSl, oSlL, oSlT, oSlS, oSlR]
@[simp] theorem x_split {s b : Str} : oSplit s [.str b] R = ((b.length == 0) = false ∧ s.length + 2 ≤ sizeLine ∧ R (.bl ((Txt.split s b).map D.str))) := by simp [oSplit]
@[simp] theorem x_append {ds : List D} {e : D} {R : D → T → Prop} : oAppend (.bl ds) [e] R = (ds.length < sizeLine ∧ R .non (.bl (ds ++ [e]))) := by simp [oAppend]
@[simp] theorem x_putD {kvs : List (Key × D)} {k : Str} {d : D} : oPut (.bd kvs) (.str k) d R = (kvs.length < sizeLine ∧ R (.bd (putD kvs (.inr k) d))) := by simp [oPut, oPutL, oPutD, D.key]
@[simp] theorem x_putL {ds : List D} {k : Int} {d : D} : oPut (.bl ds) (.int k) d R = ∃ j, ixN ds.length k = some j ∧ R (.bl (ds.set j d)) := by simp [oPut, oPutL, oPutD]
end
end VL
set_option Elab.async false
set_option linter.all false
set_option autoImplicit false
set_option maxRecDepth 100000
set_option maxHeartbeats 4000000
/-! VL22: more of the combinators' equations. -/
namespace VL
open PySem PySem.Spec PySem.Calls L2
open PyProof.Rows hiding St

section
variable {Γ : Sl} {R : T → Sl → Prop} {XR : XRl} {i j l : Nat} {m n : ME} {M : VEnds} {t : T} {d e : D}
@[simp] theorem x_par3 {g : MA} : sPar3 i j l g Γ M = g Γ (fun ts Γ' => ∃ a b c, ts = [a, b, c] ∧ i < Γ'.length ∧ j < Γ'.length ∧ l < Γ'.length ∧ M.nx (((Γ'.set i (some a)).set j (some b)).set l (some c))) M.xr := rfl
@[simp] theorem x_seqL {ds : List D} {k : List D → Prop} : (D.lst ds).seqL k = k ds := rfl
@[simp] theorem x_seqR {ns : List Int} {k : List D → Prop} : (D.scr ns).seqL k = k (ns.map D.int) := rfl
@[simp] theorem x_seqT {ds : List D} {k : List D → Prop} : (D.tup ds).seqT k = k ds := rfl
@[simp] theorem x_iL {R : List D → Sl → Prop} : iL m Γ R XR = m Γ (fun t Γ' => t.toD.seqL fun ds => R ds Γ') XR := rfl
@[simp] theorem x_iT {R : List D → Sl → Prop} : iT m Γ R XR = m Γ (fun t Γ' => t.toD.seqT fun ds => R ds Γ') XR := rfl
@[simp] theorem x_iS {R : List D → Sl → Prop} : iS m Γ R XR = m Γ (fun t Γ' => t.tS fun s => R (strD s) Γ') XR := by unfold iS; simp only [tS_eq]
@[simp] theorem x_iEn {g : MA} {R : List D → Sl → Prop} : iEn g Γ R XR = g Γ (fun ts Γ' => ∃ d, ts.map T.toD = [d] ∧ d.seqL fun ds => R (enumD 0 ds) Γ') XR := rfl
@[simp] theorem x_iR1 {g : MA} {R : List D → Sl → Prop} : iR1 g Γ R XR = g Γ (fun ts Γ' => ∃ j : Int, ts.map T.toD = [.int j] ∧ -(2 ^ 62) ≤ j ∧ j < 2 ^ 62 ∧ R (rngD 0 j.toNat) Γ') XR := rfl
@[simp] theorem x_lc {mi : MI} {g : MG1} {tt : MT} {te : ME} {vs : List Nat} : mLc mi g tt te vs Γ R XR = mi Γ (fun ds Γ' => lcL g tt te vs (fun acc Γ'' => R (.bl acc) Γ'') ds [] (wipeS Γ' vs)) XR := rfl
@[simp] theorem x_yes {R : Bool → Sl → Prop} : mYes Γ R XR = R true Γ := rfl
@[simp] theorem x_wip0 : wipeS Γ [] = Γ := rfl
@[simp] theorem x_wips {vs : List Nat} : wipeS Γ (i :: vs) = (wipeS Γ vs).set i none := rfl
@[simp] theorem x_disp0 {R : List (Key × D) → Sl → Prop} : mDisp [] Γ R XR = R [] Γ := rfl
@[simp] theorem x_disps {k : Key} {r : List (Key × ME)} {R : List (Key × D) → Sl → Prop} : mDisp ((k, m) :: r) Γ R XR = m Γ (fun t Γ' => mDisp r Γ' (fun kvs Γ2 => R ((k, t.toD) :: kvs) Γ2) XR) XR := rfl
@[simp] theorem x_dct {r : List (Key × ME)} : mDct r Γ R XR = mDisp r Γ (fun kvs Γ' => R (.bd (mergeD kvs)) Γ') XR := rfl
@[simp] theorem x_raise {m : MX} : sRaise m Γ M = m Γ (fun C fs Γ' => M.xr C fs Γ') M.xr := rfl
@[simp] theorem x_mxC {C : Addr} {n : Nat} {ok : List D → (List (Str × D) → Prop) → Prop} {g : MA} {R : Addr → List (Str × D) → Sl → Prop} : mxC C n ok g Γ R XR = g Γ (fun ts Γ' => ts.length = n ∧ ok (ts.map T.toD) fun fs => R C fs Γ') XR := rfl
@[simp] theorem x_repr {g : Str → Str → Bool} : mRepr g m n Γ R XR = m Γ (fun ta Γ1 => ∃ p, ta.toD.py = some p ∧ ShOk p ∧ n Γ1 (fun tb Γ2 => ∃ q, tb.toD.py = some q ∧ ShOk q ∧ R (.frz (.bl (g p.shown q.shown))) Γ2) XR) XR := rfl
@[simp] theorem x_try {K : PySem.W.Frag} {c : Value} {mb : MS} {ms : MU} : sTryAs K c i mb ms Γ M = mb Γ { M with xr := fun C fs Γ' => ∃ b, PySem.W.exmOne K (.ref C) c = some b ∧ (b = true → i < Γ'.length ∧ ∀ a d, ms a C d (Γ'.set i (some (.frz (.exc a C d fs)))) { nx := fun Γ2 => M.nx (Γ2.set i none), rt := M.rt, bk := fun Γ2 => M.bk (Γ2.set i none), ct := fun Γ2 => M.ct (Γ2.set i none), xr := noX }) ∧ (b = false → M.xr C fs Γ') } := rfl
@[simp] theorem x_make {C : Addr} {sp : VSp} {g : MG} : mMake C sp g Γ R XR = g Γ (fun as Γ' => argT as Γ' fun ts => sp (.bo C [] :: ts) (fun r Γp => r = .frz .non ∧ ∃ t Γq, Γp = some t :: Γq ∧ R t (wb as Γq (clr as Γ'))) (fun C fs Γp => XR C fs (wb as Γp.tail (clr as Γ')))) XR := rfl
@[simp] theorem x_fldS {Cs : List Addr} {f : Str} : sFldS i Cs f m Γ M = m Γ (fun t Γ' => slT Γ' i fun s => ∃ C fs, s = .bo C fs ∧ C ∈ Cs ∧ fs.length < 1000 ∧ M.nx (Γ'.set i (some (.bo C (putT f t fs))))) M.xr := by
  unfold sFldS
  congr 1
  funext t Γ'
  apply propext
  unfold slT
  constructor
  · rintro ⟨C, fs, e, h⟩; rw [e]; exact ⟨C, fs, rfl, h⟩
  · intro h
    split at h
    · rename_i s e
      obtain ⟨C, fs, rfl, h⟩ := h
      exact ⟨C, fs, e, h⟩
    · exact h.elim
@[simp] theorem x_atrN {Cs : List Addr} {f : Str} : mAtr Cs f (.nm i) Γ R XR = slT Γ i fun t => t.fld Cs f fun d => R (.frz d) Γ := rfl
@[simp] theorem x_atrE {Cs : List Addr} {f : Str} : mAtr Cs f (.ex m) Γ R XR = m Γ (fun t Γ' => t.fld Cs f fun d => R (.frz d) Γ') XR := rfl
end
section
variable {R : T → Prop} {i j : Int}
@[simp] theorem x_popAt {ds : List D} {R : D → T → Prop} : oPopAt (.bl ds) [.int i] R = (-(2 ^ 63) ≤ i ∧ i < 2 ^ 63 ∧ ∃ k e, seqIndex? i ds.length = some k ∧ ds[k]? = some e ∧ R e (.bl (ds.eraseIdx k))) := by
  apply propext
  constructor
  · rintro ⟨_, _, k, e, e1, e2, h1, h2, h3, h4, h⟩
    cases e1; cases e2
    exact ⟨h1, h2, k, e, h3, h4, h⟩
  · rintro ⟨h1, h2, k, e, h3, h4, h⟩
    exact ⟨_, _, k, e, rfl, rfl, h1, h2, h3, h4, h⟩
theorem dstr_inj : ∀ {a b : List Str}, a.map D.str = b.map D.str → a = b
  | [], [], _ => rfl
  | [], _ :: _, h => by cases h
  | _ :: _, [], h => by cases h
  | _ :: _, _ :: _, h => by
    simp only [List.map_cons, List.cons.injEq, D.str.injEq] at h
    rw [h.1, dstr_inj h.2]
@[simp] theorem x_joinL {s : Str} {ys : List Str} : oJoin s [.lst (ys.map D.str)] R = ((ys.map (·.length)).sum + ys.length * s.length ≤ 16777216 ∧ R (.frz (.str (Txt.join s ys)))) := by
  apply propext
  constructor
  · rintro ⟨zs, e | e, h⟩
    · simp only [List.cons.injEq, D.lst.injEq, and_true] at e
      rw [dstr_inj e]; exact h
    · simp at e
  · intro h; exact ⟨ys, .inl rfl, h⟩
theorem dbl_inj : ∀ {a b : List Bool}, a.map D.bl = b.map D.bl → a = b
  | [], [], _ => rfl
  | [], _ :: _, h => by cases h
  | _ :: _, [], h => by cases h
  | _ :: _, _ :: _, h => by
    simp only [List.map_cons, List.cons.injEq, D.bl.injEq] at h
    rw [h.1, dbl_inj h.2]
@[simp] theorem x_all {bs : List Bool} : oAll (.lst (bs.map D.bl)) R = R (.frz (.bl (bs.all id))) := by
  apply propext
  constructor
  · rintro ⟨zs, e, h⟩
    simp only [D.lst.injEq] at e
    rw [dbl_inj e]; exact h
  · intro h; exact ⟨bs, rfl, h⟩
theorem atI_ok {α : Type} {l : List α} {i : Int} (h : 0 ≤ i) (h2 : i < l.length) : atI l i = l[i.toNat]? := by
  have e2 : ixN l.length i = some i.toNat := by
    unfold ixN
    rw [if_pos h, if_pos h2]
  show (ixN l.length i).bind _ = _
  rw [e2]; rfl
theorem atI_mem {α : Type} {l : List α} {i : Int} (h : 0 ≤ i) (h2 : i < l.length) : ∃ x, atI l i = some x ∧ x ∈ l := by
  rw [atI_ok h h2, List.getElem?_eq_getElem (by omega)]
  exact ⟨_, rfl, List.getElem_mem _⟩
theorem sqi_ok {n : Nat} (h : 0 ≤ i) (h2 : i < n) : seqIndex? i n = some i.toNat := by
  unfold seqIndex?
  simp [Int.not_lt.2 h, h, h2]
theorem cut_to {α : Type} {l : List α} (h : 0 ≤ i) : cutL l none (some i) = l.take i.toNat := by
  unfold cutL HT.sIx
  simp [Int.not_lt.2 h]
theorem cut_from {α : Type} {l : List α} (h : 0 ≤ i) : cutL l (some i) none = l.drop i.toNat := by
  unfold cutL HT.sIx
  simp [Int.not_lt.2 h]
  rw [List.take_of_length_le (by simp)]
  rcases Nat.le_total i.toNat l.length with h | h
  · rw [Nat.min_eq_left h]
  · rw [Nat.min_eq_right h, List.drop_length, List.drop_of_length_le h]
theorem cut_mid {α : Type} {l : List α} (h : 0 ≤ i) (h2 : 0 ≤ j) : cutL l (some i) (some (i + j)) = (l.drop i.toNat).take j.toNat := by
  unfold cutL HT.sIx
  simp only [Int.not_lt.2 h, Int.not_lt.2 (Int.add_nonneg h h2), if_false]
  rcases Nat.le_total i.toNat l.length with h3 | h3
  · rw [Nat.min_eq_left h3]
    rcases Nat.le_total (i + j).toNat l.length with h4 | h4
    · rw [Nat.min_eq_left h4]
      congr 1
      omega
    · rw [Nat.min_eq_right h4, List.take_of_length_le (by simp), List.take_of_length_le (by simp; omega)]
  · rw [Nat.min_eq_right h3, List.drop_length, List.drop_of_length_le h3]
    simp
end
theorem eqb_flat {d : D} (h : ∃ p, d.py = some p ∧ p.depth ≤ 64) : Eqb d := h
@[simp] theorem eqb_int {i : Int} : Eqb (.int i) := ⟨_, rfl, by simp [PyData.depth]⟩
@[simp] theorem eqb_str {s : Str} : Eqb (.str s) := ⟨_, rfl, by simp [PyData.depth]⟩
@[simp] theorem eqb_bl {b : Bool} : Eqb (.bl b) := ⟨_, rfl, by simp [PyData.depth]⟩
theorem pys_strs : ∀ l : List Str, D.pys (l.map D.str) = some (l.map PyData.str)
  | [] => rfl
  | a :: l => by simp [D.pys, D.py, pys_strs l]
theorem py_strs (l : List Str) : (D.lst (l.map D.str)).py = some (.list (l.map PyData.str)) := by simp [D.py, pys_strs]
theorem depth_strs : ∀ l : List Str, PyData.depthAll (l.map PyData.str) ≤ 1
  | [] => by simp [PyData.depthAll]
  | a :: l => by have := depth_strs l; simp [PyData.depthAll, PyData.depth]; omega
@[simp] theorem eqb_strs (l : List Str) : Eqb (.lst (l.map D.str)) := ⟨_, py_strs l, by have := depth_strs l; simp [PyData.depth]; omega⟩
theorem beq_dec {α : Type} [BEq α] [LawfulBEq α] [DecidableEq α] (a b : α) : (a == b) = decide (a = b) := by
  by_cases h : a = b
  · subst h; rw [beq_self_eq_true, decide_eq_true rfl]
  · rw [decide_eq_false h]; exact beq_false_of_ne h
theorem eqD_int {i j : Int} : eqD (.int i) (.int j) = decide (i = j) := beq_dec i j
theorem eqD_str {i j : Str} : eqD (.str i) (.str j) = decide (i = j) := beq_dec i j
theorem eqD_bl {i j : Bool} : eqD (.bl i) (.bl j) = decide (i = j) := beq_dec i j
theorem eqvAll_strs : ∀ a b : List Str, PyData.eqvAll (a.map PyData.str) (b.map PyData.str) = decide (a = b)
  | [], [] => rfl
  | [], _ :: _ => rfl
  | _ :: _, [] => rfl
  | x :: a, y :: b => by
    show ((x == y) && PyData.eqvAll (a.map PyData.str) (b.map PyData.str)) = _
    rw [eqvAll_strs a b, beq_dec]
    by_cases h : x = y <;> by_cases h2 : a = b <;> simp [h, h2]
theorem eqD_strs (a b : List Str) : eqD (.lst (a.map D.str)) (.lst (b.map D.str)) = decide (a = b) := by
  unfold eqD
  rw [py_strs, py_strs]
  exact eqvAll_strs a b
end VL
set_option Elab.async false
set_option linter.all false
set_option autoImplicit false
set_option maxRecDepth 100000
set_option maxHeartbeats 4000000
/-! VL23: tests at constructors. -/
namespace VL
open PySem PySem.Spec PySem.Calls L2
open PyProof.Rows hiding St

@[simp] theorem ex2 {α β : Type} {x : α} {y : β} {P : α → β → Prop} : (∃ a b, (x = a ∧ y = b) ∧ P a b) = P x y := by
  apply propext
  constructor
  · rintro ⟨_, _, ⟨rfl, rfl⟩, h⟩; exact h
  · intro h; exact ⟨_, _, ⟨rfl, rfl⟩, h⟩
@[simp] theorem ex3 {α β γ : Type} {x : α} {y : β} {z : γ} {P : α → β → γ → Prop} : (∃ a b c, (x = a ∧ y = b ∧ z = c) ∧ P a b c) = P x y z := by
  apply propext
  constructor
  · rintro ⟨_, _, _, ⟨rfl, rfl, rfl⟩, h⟩; exact h
  · intro h; exact ⟨_, _, _, ⟨rfl, rfl, rfl⟩, h⟩
theorem pys_len : ∀ {ds : List D} {ps : List PyData}, D.pys ds = some ps → ps.length = ds.length
  | [], ps, h => by simp only [D.pys, Option.some.injEq] at h; subst h; rfl
  | d :: ds, ps, h => by
    simp only [D.pys] at h
    cases e : d.py with
    | none => rw [e] at h; simp at h
    | some p =>
      cases e2 : D.pys ds with
      | none => rw [e, e2] at h; simp at h
      | some qs =>
        rw [e, e2] at h
        simp only [Option.some.injEq] at h
        subst h
        simp [pys_len e2]
theorem eqD_nil {es : List D} (h : Eqb (.lst es)) : eqD (.lst es) (.lst []) = es.isEmpty := by
  obtain ⟨p, hp, _⟩ := h
  have h2 : (D.lst []).py = some (.list []) := rfl
  unfold eqD
  rw [h2]
  simp only [D.py] at hp ⊢
  cases e : D.pys es with
  | none => rw [e] at hp; cases hp
  | some ps =>
    have := pys_len e
    cases es with
    | nil => cases ps with
      | nil => rfl
      | cons a l => simp at this
    | cons a l => cases ps with
      | nil => simp at this
      | cons b m => rfl
@[simp] theorem eqb_nilL : Eqb (.lst []) := eqb_strs []
section
variable {R : T → Prop} {i j : Int} {s z : Str} {a b : List Str} {c : Nat}
@[simp] theorem x_eqI : oEq (.int i) (.int j) R = R (.frz (.bl (decide (i = j)))) := by simp [oEq, eqD_int]
@[simp] theorem x_neI : oNe (.int i) (.int j) R = R (.frz (.bl (!decide (i = j)))) := by simp [oNe, eqD_int]
@[simp] theorem x_eqS : oEq (.str s) (.str z) R = R (.frz (.bl (decide (s = z)))) := by simp [oEq, eqD_str]
@[simp] theorem x_neS : oNe (.str s) (.str z) R = R (.frz (.bl (!decide (s = z)))) := by simp [oNe, eqD_str]
@[simp] theorem x_eqN : oEq (.lst (a.map D.str)) (.lst []) R = R (.frz (.bl a.isEmpty)) := by
  have := eqD_nil (eqb_strs a)
  simp [oEq, this]
@[simp] theorem x_neN : oNe (.lst (a.map D.str)) (.lst []) R = R (.frz (.bl !a.isEmpty)) := by
  have := eqD_nil (eqb_strs a)
  simp [oNe, this]
@[simp] theorem x_eqL1 : oEq (.lst (a.map D.str)) (.lst [.str s]) R = R (.frz (.bl (decide (a = [s])))) := by
  have := eqD_strs a [s]
  have h2 := eqb_strs [s]
  simp only [List.map] at this h2
  simp [oEq, this, h2]
theorem any_strs : ((a.map D.str).any fun z => eqD z (.str s)) = decide (s ∈ a) := by
  induction a with
  | nil => rfl
  | cons x a ih =>
    simp only [List.map_cons, List.any_cons, ih, eqD_str, List.mem_cons]
    by_cases h : x = s
    · subst h; simp
    · simp [h, Ne.symm h]
theorem any_strs' : (a.any ((fun z => eqD z (.str s)) ∘ D.str)) = decide (s ∈ a) := by rw [← any_strs, List.any_map]
theorem flat_strs : (a.map D.str).all D.flat = true := by
  induction a with
  | nil => rfl
  | cons x a ih => simp only [List.map_cons, List.all_cons, ih]; rfl
@[simp] theorem x_inL : oIn (.str s) (.lst (a.map D.str)) R = R (.frz (.bl (decide (s ∈ a)))) := by
  simp [oIn, oInL, oInT, oInS, oInD, any_strs']
@[simp] theorem x_ninL : oNin (.str s) (.lst (a.map D.str)) R = R (.frz (.bl (!decide (s ∈ a)))) := by
  simp [oNin, oNinL, oNinT, oNinS, oNinD, any_strs']
@[simp] theorem x_inT : oIn (.str s) (.tup (a.map D.str)) R = R (.frz (.bl (decide (s ∈ a)))) := by
  have h : (D.str s).flat = true := rfl
  have h2 : ∀ x : Str, x ∈ a → (D.str x).flat = true := fun _ _ => rfl
  simp [oIn, oInL, oInT, oInS, oInD, any_strs', h]
  exact fun _ => h2
@[simp] theorem x_ninT : oNin (.str s) (.tup (a.map D.str)) R = R (.frz (.bl (!decide (s ∈ a)))) := by
  have h : (D.str s).flat = true := rfl
  have h2 : ∀ x : Str, x ∈ a → (D.str x).flat = true := fun _ _ => rfl
  simp [oNin, oNinL, oNinT, oNinS, oNinD, any_strs', h]
  exact fun _ => h2
@[simp] theorem x_inS : oIn (chD c) (.str z) R = R (.frz (.bl (decide (c ∈ z.cps.toList)))) := by
  unfold chD
  simp [oIn, oInL, oInT, oInS, oInD]
@[simp] theorem x_ninS : oNin (chD c) (.str z) R = R (.frz (.bl (!decide (c ∈ z.cps.toList)))) := by
  unfold chD
  simp [oNin, oNinL, oNinT, oNinS, oNinD]
end
end VL
set_option Elab.async false
set_option linter.all false
set_option autoImplicit false
set_option maxRecDepth 100000
set_option maxHeartbeats 4000000
/-! VL24: what may be shown. -/
namespace VL
open PySem PySem.Spec PySem.Calls L2
open PyProof.Rows hiding St
theorem shOk_of {p : PyData} (h1 : p.showable = true) (h2 : p.depth ≤ 64) (h3 : p.weight ≤ 2 ^ 20) (h4 : p.intsShort 13 = true) : ShOk p :=
  ⟨h1, h2, fun cl => Nat.le_trans (shown_le13 (by unfold PyData.layable0; rw [cl, decide_eq_true h2, decide_eq_true h3]; rfl) h4) (by decide +kernel)⟩
theorem showable_strs : ∀ l : List Str, PyData.showableAll (l.map PyData.str) = true
  | [] => rfl
  | a :: l => by simp [PyData.showableAll, PyData.showable, showable_strs l]
theorem intsShort_strs (k : Nat) : ∀ l : List Str, PyData.intsShortAll k (l.map PyData.str) = true
  | [] => rfl
  | a :: l => by simp [PyData.intsShortAll, PyData.intsShort, intsShort_strs k l]
theorem weight_strs : ∀ l : List Str, PyData.weightAll (l.map PyData.str) = (l.map (·.length)).sum + l.length
  | [] => rfl
  | a :: l => by simp [PyData.weightAll, PyData.weight, weight_strs l, Str.length]; omega
end VL
set_option Elab.async false
set_option linter.all false
set_option autoImplicit false
set_option maxRecDepth 100000
set_option maxHeartbeats 4000000
/-! VL25: the end of a law: the script handed in; facts told by a Hook of our own. -/
namespace VL
open PySem PySem.Spec PySem.Calls L2
open PyProof.Rows hiding St
section
variable {P : Program} {w : World} {K : PySem.W.Frag} {mg mb : Str → Option Value} {k : Nat} {fL aS : Addr} {fd : FuncData} {x : Str} {sp : VSp} {sB : Shared} {us : List Value} {ns : List Int}
/-- what the law must give behind the top -/
abbrev GivesTrue (sB : Shared) (res : Result) (sE : Shared) : Prop := res = .ok (.ret (.bool true)) ∧ OldK sB.heap sE.heap ∧ sE.os = sB.os ∧ AllBare sE.gens
theorem law_at (H : Hp) (hA : ∀ b o, H b = some o → b = aS ∧ ∃ oo xs, o = .frz oo (.lst xs)) (hK : H aS ≠ none → K.lookup aS = none) (hS : SqL K H aS (ns.map V.int)) (hok : HOk P w H sB.heap)
    (inK : K.In sB.heap) (nsG : sB.heap.Ns mainGlobals mg) (nsB : sB.heap.Ns builtinsNs mb) (bb : ∀ y : Str, y ≠ "__name__" → mb y = bootBuiltins y) (lim : sB.heap.NoLimit) (noGen : sB.gens = #[])
    (obj : sB.heap.get? aS = some { cls := .type "list", data := .seq us.toArray }) (hr : RoomG k callerA)
    (G : ∀ base : Heap, K.In base → base.Ns mainGlobals mg → FnG P w K mg base k fL fd [x] (lift K 1 sp)) (bd : ∀ (s : Shared) (u : Value), BindsTo s fd ⟨[u], []⟩ [(x, u)])
    (good : sp [.frz (.scr ns)] (fun t _ => t = .frz (.bl true)) fun _ _ _ => False) : codeAny (model P w) callerA (.call (.ref fL) ⟨[.ref aS], []⟩) (GivesTrue sB) sB := by
  have free : ∀ {b : Addr} {o : Obj}, sB.heap.get? b = some o → o ≠ { cls := .type "list", data := .seq us.toArray } → H b = none := fun {b o} e ne => by
    cases q : H b with
    | none => rfl
    | some z =>
      obtain ⟨rfl, _⟩ := hA b z q
      exact absurd (Option.some.inj (e.symm.trans obj)) ne
  have low : ∀ {b : Addr} {o : Obj}, sB.heap.get? b = some o → H b = none → (hidT sB.heap H).get? b = some o := fun e z => hidT_get e z
  have kNs : ∀ {b : Addr} {m : Str → Option Value}, sB.heap.Ns b m → (hidT sB.heap H).Ns b m := fun {b m} ⟨o, es, ep, e, d, r⟩ =>
    ⟨o, es, ep, low e (free e fun z => by rw [z] at d; cases d), d, r⟩
  have kIn : K.In (hidT sB.heap H) := fun b o e => low (inK b o e) (by
    cases q : H b with
    | none => rfl
    | some z =>
      obtain ⟨rfl, _⟩ := hA b z q
      rw [hK (by rw [q]; exact fun z => nomatch z)] at e
      cases e)
  have modl : Mod K mg (hidT sB.heap H) := ⟨kIn, kNs nsG, ⟨mb, kNs nsB, bb⟩, let ⟨mc, l1, l2⟩ := lim; ⟨mc, kNs l1, l2⟩⟩
  have env0 : Env0 P w K mg (hidT sB.heap H) callerA [] sB H := ⟨rfl, modl, fun b o e => of_hidT e, Nat.le_of_eq (hidT_size _ _), trivial, fun b z => absurd (show b ∈ ([] : List Addr) from z) List.not_mem_nil, hok, .of_eq noGen⟩
  have prom : lift K 1 sp [.ref aS] H (fun v _ => v = .bl true) fun _ _ _ => False :=
    ⟨H, [.frz (.scr ns)], [], _, _, rfl, fun _ _ e => e, Rps.cons (.frz (.scr hS)) .nil (by simp), good, fun Z' H' v r Γ' F' _ _ _ _ rp _ hR => by
      subst hR
      cases rp with
      | frz q => cases q; rfl, fun _ _ _ _ _ _ _ _ _ _ _ z => z.elim⟩
  refine codeAny_mono ((G _ kIn (kNs nsG)).run callerA [] sB H ⟨[.ref aS], []⟩ [.ref aS] [.ref aS] _ _ hr env0 (bd sB (.ref aS)) (Paired.cons rfl Paired.nil) prom) fun res sE z => ?_
  cases res with
  | error u =>
    obtain ⟨_, _, _, _, _, _, _, _, _, _, _, _, z⟩ := z
    exact z.elim
  | ok fl =>
    cases fl with
    | ret u =>
      obtain ⟨v, H2, os, bare, un, hok2, rv, rfl⟩ := z
      obtain rfl : u = Value.bool true := rv
      refine ⟨rfl, OldK.of_keep fun b o e => ?_, os, bare⟩
      cases q : H b with
      | none => exact un.keep b o e q (fun z => absurd (show b ∈ ([] : List Addr) from z) List.not_mem_nil) (by simp)
      | some z =>
        obtain ⟨rfl, oo, xs, rfl⟩ := hA b z q
        have q2 := un.frzs b oo _ q
        have o1 := (hok b _ q).1
        have o2 := (hok2 b _ q2).1
        rw [← Option.some.inj (o1.symm.trans e)]
        exact o2
    | next => exact z.elim
    | brk => exact z.elim
    | cont => exact z.elim
theorem law_in (inK : K.In sB.heap) (nsG : sB.heap.Ns mainGlobals mg) (nsB : sB.heap.Ns builtinsNs mb) (bb : ∀ y : Str, y ≠ "__name__" → mb y = bootBuiltins y) (lim : sB.heap.NoLimit) (noGen : sB.gens = #[])
    (obj : sB.heap.get? aS = some { cls := .type "list", data := .seq us.toArray }) (is : IntsAre us ns) (short : ns.length ≤ sizeLine) (hr : RoomG k callerA)
    (G : ∀ base : Heap, K.In base → base.Ns mainGlobals mg → FnG P w K mg base k fL fd [x] (lift K 1 sp)) (bd : ∀ (s : Shared) (u : Value), BindsTo s fd ⟨[u], []⟩ [(x, u)])
    (good : sp [.frz (.scr ns)] (fun t _ => t = .frz (.bl true)) fun _ _ _ => False) : codeAny (model P w) callerA (.call (.ref fL) ⟨[.ref aS], []⟩) (GivesTrue sB) sB := by
  have rv : Vals (ns.map V.int) us := vals_ints is
  by_cases hk : K.lookup aS = none
  · refine law_at (fun b => if b = aS then some (.frz { cls := .type "list", data := .seq us.toArray } (.lst (ns.map V.int))) else none) (fun b o e => ?_) (fun _ => hk) (.inl (.inr ⟨_, if_pos rfl⟩)) (fun b o e => ?_) inK nsG nsB bb lim noGen obj hr G bd good
    · by_cases hb : b = aS
      · exact ⟨hb, _, _, (Option.some.inj ((if_pos hb).symm.trans e)).symm⟩
      · exact nomatch (if_neg hb).symm.trans e
    · by_cases hb : b = aS
      · have e := (if_pos hb).symm.trans e
        cases e
        subst hb
        exact ⟨obj, by rw [List.length_map]; exact short, us, _, rv, obj⟩
      · exact nomatch (if_neg hb).symm.trans e
  · obtain ⟨o, ho⟩ := Option.ne_none_iff_exists'.1 hk
    have e := Option.some.inj ((inK aS o ho).symm.trans obj)
    subst e
    exact law_at (fun _ => none) (fun b o e => nomatch e) (fun z => absurd rfl z) (.inr ⟨_, us.toArray, _, ho, rfl, rfl, rfl, by rw [List.size_toArray, is.length]; exact short, by simpa using rv⟩) (fun b o e => nomatch e) inK nsG nsB bb lim noGen obj hr G bd good
end
/-- a law's end: F gives the part of the heap, the function object and the promise -/
theorem walkG {l : PySem.W.OpenLaw} {n k : Nat} {q : Program} {loose : List Str} {XP : (Str → Option Value) → Heap → Prop} {YP : World → Heap → Prop} {d : DefRec} {x : Str} {sp : PySem.W.Frag → VSp}
    (hn : l.most = some n) (hn2 : n ≤ sizeLine) (hdf : d.params.defaults = []) (hr : RoomG k callerA)
    (F : ∀ (w : World) (mg : Str → Option Value) (fL : Addr) (h : Heap), YP w h → h.Ns mainGlobals mg → mg d.name = some (.ref fL) →
      ∃ (K : PySem.W.Frag) (fd : FuncData), K.In h ∧ (∀ (s : Shared) (u : Value), BindsTo s fd ⟨[u], []⟩ [(x, u)]) ∧ ∀ base : Heap, K.In base → base.Ns mainGlobals mg → FnG l.prog w K mg base k fL fd [x] (lift K 1 (sp K)))
    (good : ∀ (K : PySem.W.Frag) (ns : List Int), ns.length ≤ n → (∀ z ∈ ns, Builtin.Int.intBits z ≤ 1048576) → sp K [.frz (.scr ns)] (fun t _ => t = .frz (.bl true)) fun _ _ _ => False) :
    PySem.W.WalkO q loose XP YP l.row.toRowW d [] (fun f vs => PySem.call f vs) := by
  refine Att.attach_callB hn hdf fun w s₀ sB mg mb fL o pm cd doc aS us ns top Y ho hd hcd hmg obj is short bits noGen => ?_
  obtain ⟨K, fd, inK, bd, G⟩ := F w mg fL _ Y top.T.g hmg
  exact law_in inK top.T.g top.T.b top.T.builtins top.T.nolimit noGen obj is (Nat.le_trans short hn2) hr G bd (good K ns short bits)
end VL
set_option Elab.async false
set_option linter.all false
set_option autoImplicit false
set_option maxRecDepth 100000
set_option maxHeartbeats 4000000
/-! VL26: the facts that the head tells, each by a look at a part of the heap. -/
namespace VL
open PySem PySem.Spec PySem.Calls L2
open PyProof.Rows hiding St
section
variable {K : PySem.W.Frag} {C g : Addr}
def foundB (K : PySem.W.Frag) (C : Addr) (m : Str) (v : Option Value) : Bool := He.eqO (PySem.W.findIn K (.ref C) m) (some v)
theorem foundB_ok {m : Str} {v : Option Value} (h : foundB K C m v = true) : PySem.W.findIn K (.ref C) m = some v := He.eqO_ok h
def clsB (K : PySem.W.Frag) (C : Addr) : Bool := (PySem.W.plainGet K C Str.empty && PySem.W.hasDictIn K C) && (PySem.W.plainOver K C && foundB K C "__setattr__" (some (.builtin "object.__setattr__")))
theorem clsB_ok (h : clsB K C = true) : Cls K C := by
  obtain ⟨h1, h2⟩ := He.ba h
  exact ⟨(He.ba h1).1, (He.ba h1).2, (He.ba h2).1, foundB_ok (He.ba h2).2⟩
def fldB (K : PySem.W.Frag) (C : Addr) (f : Str) : Bool := clsB K C && foundB K C f none
theorem fldB_ok {f : Str} (h : fldB K C f = true) : FldOk K [C] f := fun D hD => by
  rw [List.mem_singleton.1 hD]
  exact ⟨clsB_ok (He.ba h).1, foundB_ok (He.ba h).2⟩
def mkB (K : PySem.W.Frag) (C f : Addr) : Bool := (PySem.W.makesIn K C && foundB K C "__init__" (some (.ref f))) && (PySem.W.isFn K (.ref f) && PySem.W.keepIn K (.ref C))
theorem mkB_ok {f : Addr} (h : mkB K C f = true) : Mk K C f := by
  obtain ⟨h1, h2⟩ := He.ba h
  exact ⟨(He.ba h1).1, foundB_ok (He.ba h1).2, (He.ba h2).1, (He.ba h2).2⟩
def boolB (a : Option Bool) (b : Bool) : Bool := decide (a = some b)
def getB (K : PySem.W.Frag) : Bool := He.eqO (PySem.W.specialIn K (.builtin "object.__class__") "__get__") (some (some (.builtin "getset_descriptor.__get__"))) && boolB (PySem.W.takesIn K (.builtin "object.__class__")) true
def insB (K : PySem.W.Frag) (C : Addr) : Bool := clsB K C && (foundB K C "__class__" (some (.builtin "object.__class__")) && (getB K && boolB (PySem.W.mroIn K C (.type "object")) true))
theorem insB_ok (h : insB K C = true) : InsC K C := by
  obtain ⟨h1, h⟩ := He.ba h
  obtain ⟨h2, h⟩ := He.ba h
  obtain ⟨h3, h4⟩ := He.ba h
  exact ⟨clsB_ok h1, foundB_ok h2, He.eqO_ok (He.ba h3).1, of_decide_eq_true (He.ba h3).2, of_decide_eq_true h4⟩
def ownEqB (K : PySem.W.Frag) (C g : Addr) : Bool := (foundB K C "__eq__" (some (.ref g)) && PySem.W.isFn K (.ref g)) && (foundB K C "__ne__" (some (.builtin "object.__ne__")) && boolB (PySem.W.mroIn K C (.type "object")) true)
theorem ownEqB_ok (h : ownEqB K C g = true) : EqC K C g := by
  obtain ⟨h1, h2⟩ := He.ba h
  exact ⟨foundB_ok (He.ba h1).1, (He.ba h1).2, foundB_ok (He.ba h2).1, of_decide_eq_true (He.ba h2).2⟩
/-- isinstance, the class of an exception -/
def excB (K : PySem.W.Frag) (C : Addr) : Bool := xfB K C && (foundB K C "__class__" (some (.builtin "object.__class__")) && (getB K && boolB (PySem.W.mroIn K C (.type "object")) true))
theorem excB_ok (h : excB K C = true) : ExcC K C ∧ XfC K C := by
  obtain ⟨h1, h⟩ := He.ba h
  obtain ⟨h2, h⟩ := He.ba h
  obtain ⟨h3, h4⟩ := He.ba h
  have x := xfB_ok h1
  exact ⟨⟨x.ga, x.gg, x.exC, x.hdC, foundB_ok h2, He.eqO_ok (He.ba h3).1, of_decide_eq_true (He.ba h3).2, of_decide_eq_true h4⟩, x⟩
/-- the class object of an own exception over ValueError -/
def oexB (K : PySem.W.Frag) (C : Addr) : Bool := (match K.lookup C with
  | some ⟨.type "type", _, .cls ⟨_, _, .ref C' :: bm, _, _, true, _, _, _, _, false⟩, sl⟩ => (match sl.toList with
    | [_, _, _, _, some (.builtin "ValueError.__new__"), _] => C' == C && PySem.HandSPX.refsVE bm
    | _ => false)
  | _ => false) && ((foundB K C "__setattr__" (some (.builtin "object.__setattr__")) && boolB (PySem.W.subIn K (.ref C) (.type "BaseException")) true) && (decide (PySem.W.typeIn K (.ref C) = some (.type "type")) && PySem.W.keepIn K (.ref C)))
theorem oexB_ok (h : oexB K C = true) : OexC K C := by
  obtain ⟨h1, h⟩ := He.ba h
  obtain ⟨h2, h3⟩ := He.ba h
  refine ⟨?_, foundB_ok (He.ba h2).1, of_decide_eq_true (He.ba h2).2, of_decide_eq_true (He.ba h3).1, (He.ba h3).2⟩
  split at h1
  · rename_i dd nm bs C' bm N q sn sub ab col sl e
    split at h1
    · rename_i k0 k1 k2 k3 k5 es
      obtain ⟨h5, h6⟩ := He.ba h1
      have e5 : C' = C := beq_iff_eq.1 h5
      subst e5
      have e7 : sl = #[k0, k1, k2, k3, some (.builtin "ValueError.__new__"), k5] := by
        rw [← Array.toList_inj, es]
      subst e7
      exact ⟨_, _, _, _, _, _, _, _, _, _, _, _, _, _, _, e, h6⟩
    · cases h1
  · cases h1
def xcB (K : PySem.W.Frag) (C f : Addr) : Bool := oexB K C && (foundB K C "__init__" (some (.ref f)) && decide (PySem.W.typeIn K (.ref f) = some (.type "function")))
theorem xcB_ok {f : Addr} (h : xcB K C f = true) : XcC K C f := by
  obtain ⟨h1, h2⟩ := He.ba h
  exact ⟨oexB_ok h1, foundB_ok (He.ba h2).1, of_decide_eq_true (He.ba h2).2⟩
/-! ### an __init__ that calls super().__init__ -/
abbrev SupV : Type := Option (Str × Str × Arguments × FuncBody × Scope × Addr × List Str × Addr)
def supV (K : PySem.W.Frag) (f : Addr) : SupV := match K.lookup f with
  | some ⟨_, _, .func fd, _⟩ => some (fd.name, fd.qualname, fd.params, fd.body, fd.scope, fd.globals, fd.closure.map (·.1), fd.builtins)
  | _ => none
structure SupD where
  cls : Str
  qual : Str
  st : Stmt
def SupD.f (K : PySem.W.Frag) (d : SupD) : Addr := He.fAd K (d.cls, some "__init__")
def SupD.val (d : SupD) : SupV := some (("__init__" : Str), d.qual, defArgs d.st, FuncBody.stmts (defBody d.st), defScope d.st, mainGlobals, ([("__class__" : Str)] : List Str), builtinsNs)
def supB (K : PySem.W.Frag) (file qual : Str) (C f : Addr) : Bool := (match K.lookup f with
  | some ⟨_, _, .func ⟨_, _, _, _, _, _, [(_, cc)], .none, _, _, _, _, .ref cda, _, _⟩, _⟩ => PySem.W.codeIn K (.ref cda) qual && ((match K.lookup cda with
    | some ⟨_, _, .fields us, _⟩ => (match (us[2]? : Option Value) with
      | some (Value.str fl _) => file == fl
      | _ => false)
    | _ => false) && (match K.lookup cc with
    | some ⟨_, _, .cell (some (.ref C')), _⟩ => C' == C
    | _ => false))
  | _ => false) && ((oexB K C && He.eqO (PySem.W.ks_superIn K C C "__init__") (some (some (.builtin "ValueError.__init__")))) && ((He.eqO (PySem.W.nsIn K PySem.cStatics "thirdparty.any") (some none) && boolB (PySem.W.subIn K (.ref C) (.type "ValueError")) true) && (boolB (PySem.W.mroIn K C (.ref C)) true && He.eqO (PySem.W.nsIn K mainGlobals "super") (some none))))
/-- no defaults -/
def PlainX (qual : Str) (st : Stmt) (fd : FuncData) : Prop := ∃ (kV doc pm : Value) (an : Option Addr) (cdv ct : Value) (cc : Addr), fd = PySem.W.ksFn "__init__" qual (defArgs st) (defBody st) (defScope st) .none kV doc pm an cdv ct cc
theorem PlainX.binds {qual : Str} {st : Stmt} {fd : FuncData} {ps : List Str} (h : PlainX qual st fd) (hb : ∀ (kV doc pm : Value) (an : Option Addr) (cdv ct : Value) (cc : Addr) (us : List Value), us.length = ps.length → bindArgs (PySem.W.ksFn "__init__" qual (defArgs st) (defBody st) (defScope st) .none kV doc pm an cdv ct cc) ⟨us, []⟩ = pure (ps.zip us)) : Binds K fd ps [] := by
  obtain ⟨kV, doc, pm, an, cdv, ct, cc, rfl⟩ := h
  exact .all (hb kV doc pm an cdv ct cc)
theorem supB_ok {P : Program} {h : Heap} {mg : Str → Option Value} {qual : Str} {st : Stmt} {f : Addr} (X : K.In h) (G : h.Ns mainGlobals mg) (hp : (P.main.scope.names.lookup ("super" : Str)).isSome = false)
    (hv : supV K f = some (("__init__" : Str), qual, defArgs st, FuncBody.stmts (defBody st), defScope st, mainGlobals, ([("__class__" : Str)] : List Str), builtinsNs)) (hb : supB K P.main.file qual C f = true) :
    ∃ fd, SupF P K mg qual (defArgs st) (defBody st) (defScope st) C f fd ∧ PlainX qual st fd := by
  obtain ⟨h1, hb⟩ := He.ba hb
  obtain ⟨h2, hb⟩ := He.ba hb
  obtain ⟨h3, h4⟩ := He.ba hb
  split at h1
  · rename_i oc od x1 x2 x3 x4 x5 x6 y cc kV doc pm an cda ct bl osl e
    obtain ⟨c1, c2⟩ := He.ba h1
    obtain ⟨c2, c3⟩ := He.ba c2
    unfold supV at hv
    rw [e] at hv
    simp only [List.map_cons, List.map_nil, Option.some.injEq, Prod.mk.injEq, List.cons.injEq, and_true] at hv
    obtain ⟨rfl, rfl, rfl, rfl, rfl, rfl, rfl, rfl⟩ := hv
    refine ⟨_, ⟨⟨oc, od, .none, kV, doc, pm, an, cda, cc, ct, osl, rfl, e, c1, ?_, ?_⟩, oexB_ok (He.ba h2).1, He.eqO_ok (He.ba h2).2, He.eqO_ok (He.ba h3).1, of_decide_eq_true (He.ba h3).2, of_decide_eq_true (He.ba h4).1, PySem.W.mg_none_of X G (He.eqO_ok (He.ba h4).2), hp⟩, kV, doc, pm, an, .ref cda, ct, cc, rfl⟩
    · split at c2
      · rename_i z1 z2 us z3 e2
        split at c2
        · rename_i fl tf e3
          exact ⟨_, _, us, _, fl, tf, e2, e3, c2⟩
        · cases c2
      · cases c2
    · split at c3
      · rename_i z1 z2 C' z3 e2
        have e5 : C' = C := beq_iff_eq.1 c3
        subst e5
        exact ⟨_, _, _, e2⟩
      · cases c3
  · cases h1
end
/-! ### the Hook -/
abbrev AlX : Type := Bool × List He.FnW × List SupV
def obsX (file : Str) (fa : List He.Fa) (fn : List He.DefD) (fs : List SupD) (ex : PySem.W.Frag → Bool) (K : PySem.W.Frag) : AlX :=
  ((fa.all (He.Fa.ok K) && fn.all (He.DefD.ok K)) && (fs.all (fun d => supB K file d.qual (He.ga K d.cls) (d.f K)) && ex K), fn.map (fun d => He.fnW K d.at_), fs.map fun d => supV K (d.f K))
def valX (fn : List He.DefD) (fs : List SupD) : AlX := (true, fn.map He.DefD.val, fs.map SupD.val)
def addrsX (n : Nat) (gt : Addr → Option Obj) : List Addr := He.asD gt n ++ [PySem.cStatics]
def obsXG (n : Nat) (file : Str) (fa : List He.Fa) (fn : List He.DefD) (fs : List SupD) (ex : PySem.W.Frag → Bool) (gt : Addr → Option Obj) : AlX := obsX file fa fn fs ex (He.frG gt (addrsX n gt))
def hookX (n : Nat) (file : Str) (fa : List He.Fa) (fn : List He.DefD) (fs : List SupD) (ex : PySem.W.Frag → Bool) : PySem.W.Hook where
  α := AlX
  obs := fun s => obsXG n file fa fn fs ex s.heap.get?
  val := fun _ => valX fn fs
  says := fun _ h => ∃ K : PySem.W.Frag, K.In h ∧ obsX file fa fn fs ex K = valX fn fs
  of := fun _ _ e => ⟨_, He.frG_in, e⟩
  keeps := fun _ _ _ ⟨K, hK, c⟩ k => ⟨K, PySem.W.Frag.In.keeps hK k, c⟩
theorem obsXG_eq {n : Nat} {file : Str} {fa : List He.Fa} {fn : List He.DefD} {fs : List SupD} {ex : PySem.W.Frag → Bool} {gt : Addr → Option Obj} {s : Shared} (h : ∀ a, gt a = s.heap.get? a) : obsXG n file fa fn fs ex gt = (hookX n file fa fn fs ex).obs s := by
  obtain rfl : gt = s.heap.get? := funext h
  rfl
section
variable {file : Str} {fa : List He.Fa} {fn : List He.DefD} {fs : List SupD} {ex : PySem.W.Frag → Bool} {K : PySem.W.Frag}
theorem factX (c : obsX file fa fn fs ex K = valX fn fs) (i : Nat) {f : He.Fa} (h : fa[i]? = some f := by rfl) : f.ok K = true :=
  List.all_eq_true.1 (He.ba (He.ba (congrArg (fun z : AlX => z.1) c)).1).1 f (List.mem_of_getElem? h)
theorem restX (c : obsX file fa fn fs ex K = valX fn fs) : ex K = true := (He.ba (He.ba (congrArg (fun z : AlX => z.1) c)).2).2
theorem defX (c : obsX file fa fn fs ex K = valX fn fs) (i : Nat) {d : He.DefD} (h : fn[i]? = some d := by rfl) : ∃ fd, FunD K d.name d.qual d.params d.body d.scope (d.dvs K) (d.kws K) (He.fAd K d.at_) fd := by
  have c2 := (He.ba (He.ba (congrArg (fun z : AlX => z.1) c)).1).2
  have e : (fn.map fun d => He.fnW K d.at_)[i]? = (fn.map He.DefD.val)[i]? := congrArg (fun l : List He.FnW => l[i]?) (congrArg (fun z : AlX => z.2.1) c)
  rw [List.getElem?_map, List.getElem?_map, h] at e
  exact He.DefD.funD (Option.some.inj e) (List.all_eq_true.1 c2 d (List.mem_of_getElem? h))
theorem supX {P : Program} {h : Heap} {mg : Str → Option Value} (c : obsX P.main.file fa fn fs ex K = valX fn fs) (X : K.In h) (G : h.Ns mainGlobals mg) (hp : (P.main.scope.names.lookup ("super" : Str)).isSome = false) (i : Nat) {d : SupD} (hi : fs[i]? = some d := by rfl) :
    ∃ fd, SupF P K mg d.qual (defArgs d.st) (defBody d.st) (defScope d.st) (He.ga K d.cls) (d.f K) fd ∧ PlainX d.qual d.st fd := by
  have c2 := (He.ba (He.ba (congrArg (fun z : AlX => z.1) c)).2).1
  have e : (fs.map fun d => supV K (d.f K))[i]? = (fs.map SupD.val)[i]? := congrArg (fun l : List SupV => l[i]?) (congrArg (fun z : AlX => z.2.2) c)
  rw [List.getElem?_map, List.getElem?_map, hi] at e
  exact supB_ok X G hp (Option.some.inj e) (List.all_eq_true.1 c2 d (List.mem_of_getElem? hi))
end
end VL
set_option Elab.async false
set_option linter.all false
set_option autoImplicit false
set_option maxRecDepth 100000
set_option maxHeartbeats 4000000
/-! VL27: own exceptions held as values; own exceptions without fields. -/
namespace VL
open PySem PySem.Spec PySem.Calls L2
open PyProof.Rows hiding St
/-! ### C(e, ..), kept -/
def tOxV (C : Addr) (sp : Sp) (ta : TA) : TE := fun σ H Q => ta σ H fun vs H1 => vs.length ≤ 1000 ∧ ∀ a, H1 a = none → sp (.ref a :: vs) (upd H1 a (exo a C none)) (fun v H2 => v = .non ∧ Q (.ref a) H2) fun _ _ _ => False
section
variable {X : Cx} {W : WX} {C fI : Addr} {fd : FuncData} {ps : List Str} {x : Str} {p pos : Pos} {e : Expr} {es : List Expr} {k : Nat} {sp : Sp} {ta : TA}
theorem run_oxv {pins : List (Addr × Obj)} {σ : St} {H : Hp} {st : Shared} {Q : VK} {us : List Value} {vs : List V} (T : OexC X.K C) (iC : PySem.W.findIn X.K (.ref C) "__init__" = some (some (.ref fI))) (tI : PySem.W.typeIn X.K (.ref fI) = some (.type "function"))
    (F1 : FnOk X.prog X.w X.K X.mg X.base (L2.CX X.prog X.w) k fI fd ps sp) (hr : Room (k + 1) X.A) (hb : Binds X.K fd ps []) (I : Inv X pins σ H st) (r : Vals vs us) (hz : vs.length ≤ 1000)
    (q1 : ∀ a, H a = none → sp (.ref a :: vs) (upd H a (exo a C none)) (fun v H2 => v = .non ∧ Q (.ref a) H2) fun _ _ _ => False) : wpAny (model X.prog X.w) X.A (call (.ref C) us) (EP X pins σ Q) X.xe st := by
  obtain ⟨nm, q, N, bs, bm, sn, sub, ab, col, dd, k0, k1, k2, k3, k5, hC, hbm⟩ := T.cls
  obtain ⟨hp, g, dr, tk, os⟩ := st
  have up : hp.objs.size ≤ hp.objs.size + 1 := Nat.le_succ _
  have hq := q1 (hp.objs.size + 1) (I.hok.fresh up)
  have kk : ∀ b o, hp.get? b = some o → ((hp.push (PySem.W.kdv_tup us)).push (PySem.HandSPX.excO C hp.objs.size)).get? b = some o := fun b o e => Heap.get?_push_of_some _ (Heap.get?_push_of_some _ e)
  have new : ((hp.push (PySem.W.kdv_tup us)).push (PySem.HandSPX.excO C hp.objs.size)).get? (hp.objs.size + 1) = some (PySem.HandSPX.excO C hp.objs.size) := by heap_get
  have I2 : Inv X pins σ (upd H (hp.objs.size + 1) (exo (hp.objs.size + 1) C none)) ⟨(hp.push (PySem.W.kdv_tup us)).push (PySem.HandSPX.excO C hp.objs.size), g, dr, tk, os⟩ := I.laid (t' := tk) (a := hp.objs.size + 1) (o := exo (hp.objs.size + 1) C none) kk up (exo_ok new)
  have r2 : Vals (V.ref (hp.objs.size + 1) :: vs) (Value.ref (hp.objs.size + 1) :: us) := .cons rfl r
  have hl : (Value.ref (hp.objs.size + 1) :: us ++ []).length = ps.length := by
    rw [List.append_nil, ← r2.length]
    exact F1.len _ _ _ _ hq
  have bt := hb _ (Value.ref (hp.objs.size + 1) :: us) I2.kIn hl
  rw [List.append_nil] at bt
  have hus : us.length ≤ sizeLine := by rw [← Paired.length r, sizeLine_eq]; omega
  refine wpAny_call (PySem.HandSPX.call_own F.excBase_ValueError (fun Y => PySem.HandSPX.refsVE_contains Y bm hbm) (I.kIn _ _ hC) (PySem.W.looks_findIn I.kIn iC) (fun self => PySem.W.bind_fn I.kIn self tI) hus
    (codeAny_mono (F1.run _ X.stack _ _ ⟨Value.ref (hp.objs.size + 1) :: us, []⟩ (Value.ref (hp.objs.size + 1) :: us) _ _ (fun _ _ _ => False) (hr.make C us []) (I2.env0.make C us []) bt r2 hq) fun res s2 hres => ?_))
  cases res with
  | error z => exact passes_call (W := noW) takes0 (fun _ _ _ _ z => z) pins σ _ _ z s2 I2 hres
  | ok fl =>
    cases fl with
    | ret u =>
      obtain ⟨v, H2, I3, rv, ev, q2⟩ := I2.after hres
      subst ev
      exact ⟨rv, V.ref (hp.objs.size + 1), H2, I3, rfl, q2⟩
    | _ => exact hres.elim
theorem pe_oxv (T : OexC X.K C) (iC : PySem.W.findIn X.K (.ref C) "__init__" = some (some (.ref fI))) (tI : PySem.W.typeIn X.K (.ref fI) = some (.type "function"))
    (F1 : FnOk X.prog X.w X.K X.mg X.base (L2.CX X.prog X.w) k fI fd ps sp) (hr : Room (k + 1) X.A) (hb : Binds X.K fd ps []) (hg : Gl X x) (hm : X.mg x = some (.ref C)) (ha : PA X (e :: es) ta)
    (hdb : (x == ("__debug__" : Str)) = false := by decide) (he : starEach (e :: es) X.env = (false, eval e X.env) :: starEach es X.env := by rfl) (hpl : (backTo pos (starEach es X.env)).any (·.1) = false := by rfl) : PE X (.Call (.Name x p) (e :: es) [] pos) (tOxV C sp ta) := by
  constructor
  intro pins st σ H Q I want
  apply wpAny_Call_Name_kw
  apply ld_glob I hg hm _ hdb
  apply PySem.W.callWith_K (h₀ := X.base) I.ok.mod.kin T.kC _ he hpl
  apply thn (ha.run pos pins st σ H _ I want)
  rintro us s1 ⟨vs, H1, I1, r1, hz, q1⟩
  exact ⟨I1.kIn, run_oxv T iC tI F1 hr hb I1 r1 hz q1⟩
theorem pe_oxv0 (T : OexC X.K C) (iC : PySem.W.findIn X.K (.ref C) "__init__" = some (some (.ref fI))) (tI : PySem.W.typeIn X.K (.ref fI) = some (.type "function"))
    (F1 : FnOk X.prog X.w X.K X.mg X.base (L2.CX X.prog X.w) k fI fd ps sp) (hr : Room (k + 1) X.A) (hb : Binds X.K fd ps []) (hg : Gl X x) (hm : X.mg x = some (.ref C))
    (hdb : (x == ("__debug__" : Str)) = false := by decide) : PE X (.Call (.Name x p) [] [] pos) (tOxV C sp fun _ H Q => Q [] H) := by
  constructor
  intro pins st σ H Q I want
  apply wpAny_Call_Name_kw
  apply ld_glob I hg hm _ hdb
  exact PySem.W.callWith_K0 I.kIn T.kC (run_oxv T iC tI F1 hr hb I .nil want.1 want.2)
end
/-! ### the value -/
def mXv (C : Addr) (n : Nat) (ok : List D → (List (Str × D) → Prop) → Prop) (g : MA) : ME := fun Γ R XR => g Γ (fun ts Γ' => ts.length = n ∧ ok (ts.map T.toD) fun fs => R (.frz (.exv C fs)) Γ') XR
/-- behind the new exception: what stood, stands -/
theorem exv_ext {Z1 H1 Z2 H2 Z3 : Hp} {F : List Addr} {a : Addr} {o0 : HO} (z12 : Same Z1 Z2) (z23 : Same Z2 Z3) (n2 : ∀ b, Z2 b ≠ none → Z1 b ≠ none ∨ upd H1 a o0 b = none) (n3 : ∀ b, Z3 b ≠ none → Z2 b ≠ none ∨ H1 b = none) (na : H1 a = none)
    (keep : ∀ b o, b ≠ a → upd H1 a o0 b = some o → H2 b = some o) : Ext Z1 H1 F Z3 H2 F := by
  refine ⟨z12.trans z23, fun b h => ?_, fun b o h nf => ⟨?_, nf⟩⟩
  · rcases n3 b h with h | h
    · rcases n2 b h with h | h
      · exact .inl h
      · by_cases hb : b = a
        · rw [hb]; exact .inr (.inr na)
        · rw [upd_ne hb] at h; exact .inr (.inr h)
    · exact .inr (.inr h)
  · have ba : b ≠ a := fun z => by rw [z, na] at h; cases h
    exact keep b o ba (by rw [upd_ne ba]; exact h)
section
variable {X : Cx} {W : WX} {C fI : Addr} {fd : FuncData} {ps : List Str} {x : Str} {p pos : Pos} {e : Expr} {es : List Expr}
theorem ve_mkv {k n : Nat} {ok : List D → (List (Str × D) → Prop) → Prop} {g : MA} (TC : OexC X.K C) (iC : PySem.W.findIn X.K (.ref C) "__init__" = some (some (.ref fI))) (tI : PySem.W.typeIn X.K (.ref fI) = some (.type "function"))
    (F1 : FnOk X.prog X.w X.K X.mg X.base (L2.CX X.prog X.w) k fI fd ps (spX X.K n C ok)) (hr : Room (k + 1) X.A) (hb : Binds X.K fd ps []) (hg : Gl X x) (hm : X.mg x = some (.ref C)) (ha : VA X W (e :: es) g) (hes : es.length < 1000 := by decide)
    (hdb : (x == ("__debug__" : Str)) = false := by decide) (he : starEach (e :: es) X.env = (false, eval e X.env) :: starEach es X.env := by rfl) (hpl : (backTo pos (starEach es X.env)).any (·.1) = false := by rfl) : VE X W (.Call (.Name x p) (e :: es) [] pos) (mXv C n ok g) := by
  obtain ⟨ta, pa, sa⟩ := ha.ex
  refine ⟨_, pe_oxv TC iC tI F1 hr hb hg hm pa hdb he hpl, fun Z H σ Γ F R XR Q hs rs m kq xk => ?_⟩
  refine sa Z H σ Γ F _ XR _ hs rs m (fun Z0 H1 Γ1 F1 ts v1 G s0 e0 r0 p1 n1 l1 q1 => ?_) xk
  obtain ⟨f1, f2, f3, f4⟩ := frz_args s0 r0 p1 n1
  have e1 := ext_frz e0 fun x hx => (p1.foot x hx).1
  obtain ⟨Z1, hZ1⟩ : ∃ Z1, Z1 = frzH Z0 H1 G := ⟨_, rfl⟩
  rw [← hZ1] at f1 f2 f3 f4 e1
  refine ⟨by rw [l1, List.length_cons]; omega, fun a na => ?_⟩
  have za : Z1 a = none := f2.free na
  refine ⟨Z1, a, v1, ts.map T.toD, _, rfl, by rw [← f4.length, List.length_map]; exact q1.1, upd_same, za, fun b o z => ?_, f4, q1.2, fun Z2 H2 d fs fs' s2 z12 zn keep e2a e2d hd zd za2 hk rz q2 => ⟨rfl, ?_⟩⟩
  · rw [upd_ne (ne_of_none z za)]
    exact f2 b o z
  · have hda : d ≠ a := fun z => by rw [z, upd_same] at hd; cases hd
    have hd1 : H1 d = none := by rw [upd_ne hda] at hd; exact hd
    have zd' : Same Z2 (upd (upd Z2 d (exd d fs')) a (exo a C (some d))) := fun b o q => by
      rw [upd_ne (ne_of_none q za2), upd_ne (ne_of_none q zd)]
      exact q
    have s3 : Same (upd (upd Z2 d (exd d fs')) a (exo a C (some d))) H2 := fun b o q => by
      by_cases hb : b = a
      · subst hb; rw [upd_same] at q; cases q; exact e2a
      · rw [upd_ne hb] at q
        by_cases hb2 : b = d
        · subst hb2; rw [upd_same] at q; cases q; exact e2d
        · rw [upd_ne hb2] at q; exact s2 b o q
    have e3 : Ext Z1 H1 F1 (upd (upd Z2 d (exd d fs')) a (exo a C (some d))) H2 F1 := exv_ext z12 zd' zn (fun b h => by
      by_cases hb : b = a
      · rw [hb]; exact .inr na
      · rw [upd_ne hb] at h
        by_cases hb2 : b = d
        · rw [hb2]; exact .inr hd1
        · rw [upd_ne hb2] at h; exact .inl h) na keep
    have r3 : Rsl X.K (upd (upd Z2 d (exd d fs')) a (exo a C (some d))) H2 Γ1 σ F1 := f3.mono e3.z fun y hy => by
      obtain ⟨hz, o, ho⟩ := f3.foot y hy
      have ya : y ≠ a := fun z => by rw [z, na] at ho; cases ho
      have yd : y ≠ d := fun z => by rw [z, hd1] at ho; cases ho
      refine ⟨?_, ?_⟩
      · rw [upd_ne ya, upd_ne yd]
        cases q : Z2 y with
        | none => rfl
        | some u =>
          rcases zn y (by rw [q]; simp) with h | h
          · exact absurd hz h
          · rw [upd_ne ya, ho] at h; cases h
      · rw [ho]
        exact keep y o ya (by rw [upd_ne ya]; exact ho)
    have zz : Rz X.K (upd (upd Z2 d (exd d fs')) a (exo a C (some d))) (.exv C fs) (.ref a) := .exv upd_same (by rw [upd_ne hda, upd_same]) hk (rz.mono zd')
    refine kq _ H2 Γ1 F1 (.frz (.exv C fs)) (.ref a) [] s3 ?_ r3 (.frz zz) (fun y hy => absurd hy (by simp)) q2
    simpa using e1.trans e3
/-- an __init__ without arguments that only calls super().__init__ -/
def spX0 (C : Addr) : Sp := fun vs H Q _ => ∃ a, vs = [.ref a] ∧ H a = some (exo a C none) ∧ ∀ H2, (∀ b o, H b = some o → H2 b = some o) → Q .non H2
theorem ve_mkv0 {k : Nat} (TC : OexC X.K C) (iC : PySem.W.findIn X.K (.ref C) "__init__" = some (some (.ref fI))) (tI : PySem.W.typeIn X.K (.ref fI) = some (.type "function"))
    (F1 : FnOk X.prog X.w X.K X.mg X.base (L2.CX X.prog X.w) k fI fd ps (spX0 C)) (hr : Room (k + 1) X.A) (hb : Binds X.K fd ps []) (hg : Gl X x) (hm : X.mg x = some (.ref C))
    (hdb : (x == ("__debug__" : Str)) = false := by decide) : VE X W (.Call (.Name x p) [] [] pos) (mC (.exv C [])) := by
  refine ⟨_, pe_oxv0 TC iC tI F1 hr hb hg hm hdb, fun Z H σ Γ F R XR Q hs rs m kq xk => ?_⟩
  refine ⟨Nat.zero_le _, fun a na => ⟨a, rfl, upd_same, fun H2 keep => ⟨rfl, ?_⟩⟩⟩
  have za : Z a = none := hs.free na
  have z2 : Same Z (upd Z a (exo a C none)) := fun b o q => by rw [upd_ne (ne_of_none q za)]; exact q
  have up : ∀ b o, H b = some o → H2 b = some o := fun b o q => keep b o (by
    rw [upd_ne fun z => by rw [z, na] at q; cases q]
    exact q)
  have s3 : Same (upd Z a (exo a C none)) H2 := fun b o q => by
    by_cases hb : b = a
    · subst hb; rw [upd_same] at q; cases q; exact keep _ _ upd_same
    · rw [upd_ne hb] at q; exact up _ _ (hs b o q)
  have e3 : Ext Z H F (upd Z a (exo a C none)) H2 F := ⟨z2, fun b h => by
    by_cases hb : b = a
    · rw [hb]; exact .inr (.inr na)
    · rw [upd_ne hb] at h; exact .inl h, fun b o h nf => ⟨up b o h, nf⟩⟩
  have r3 : Rsl X.K (upd Z a (exo a C none)) H2 Γ σ F := rs.mono z2 fun y hy => by
    obtain ⟨hz, o, ho⟩ := rs.foot y hy
    have ya : y ≠ a := fun z => by rw [z, na] at ho; cases ho
    exact ⟨by rw [upd_ne ya]; exact hz, by rw [ho]; exact up y o ho⟩
  exact kq _ H2 Γ F (.frz (.exv C [])) (.ref a) [] s3 (by simpa using e3) r3 (.frz (.exv0 upd_same)) (fun y hy => absurd hy (by simp)) m
end
/-! ### x.f, isinstance(x, c) of such a value -/
theorem exv_at {K : PySem.W.Frag} {Z H : Hp} {C : Addr} {fs : List (Str × D)} {v : V} (hs : Same Z H) (r : Rz K Z (.exv C fs) v) : ∃ a d, v = .ref a ∧ H a = some (exo a C d) ∧ (d = none → fs = []) ∧ ∀ dd, d = some dd → ∃ fs', H dd = some (exd dd fs') ∧ fs'.map (·.1) = fs.map (·.1) ∧ Rzs K Z (fs.map (·.2)) (fs'.map (·.2)) := by
  cases r with
  | exv0 h => exact ⟨_, none, rfl, hs _ _ h, fun _ => rfl, fun _ z => nomatch z⟩
  | exv h1 h2 h3 h4 => exact ⟨_, _, rfl, hs _ _ h1, fun z => (nomatch z), fun dd z => by cases z; exact ⟨_, hs _ _ h2, h3, h4⟩⟩
section
variable {X : Cx} {W : WX}
/-- isinstance(x, c) -/
def rIsX (K : PySem.W.Frag) : List V → Hp → VK → Prop := fun xs H Q => ∃ (a C : Addr) (d : Option Addr) (c : V) (cv : Value) (b : Bool), xs = [.ref a, c] ∧ H a = some (exo a C d) ∧ (∀ dd, d = some dd → ∃ fs, H dd = some (exd dd fs)) ∧ ClsV c cv ∧ ExcC K C ∧ PySem.W.kitOne K (.ref C) cv = some b ∧ Q (.bl b) H
theorem call_isX : CallR X (.builtin "isinstance") (rIsX X.K) := by
  intro pins s σ H xs us Q I r h
  obtain ⟨a, C, d, c, cv, b, rfl, ha, hdd, hcv, E, hk, q⟩ := h
  obtain ⟨u1, u2, rfl, r1, r2⟩ := vals2 r
  have ec := hcv.eq r2
  subst ec
  obtain rfl : u1 = Value.ref a := r1
  obtain ⟨t1, hget⟩ := exo_at I.hok ha
  have hcl : (PySem.W.clsIn X.K C).isSome = true := by
    obtain ⟨cd, h1, _⟩ := PySem.W.any_some E.hd
    rw [h1] <;> rfl
  have key : ∃ od, PySem.W.InstAt s.heap a ({ cls := .ref C, dict := d, data := .fields #[.ref t1, .none, .none, .none, .bool false, .none] } : Obj) C od := by
    cases d with
    | none => exact ⟨none, hget, rfl, rfl, trivial⟩
    | some dd =>
      obtain ⟨fs, ea⟩ := hdd dd rfl
      obtain ⟨mA, hns, hr⟩ := exd_at I.hok ea
      obtain ⟨od, ho, hl⟩ := lookIn_ns hns
      exact ⟨some od, hget, rfl, rfl, ho⟩
  obtain ⟨od, J⟩ := key
  exact PySem.W.kia_one (PySem.W.kitx_exc hcl E.hg E.hk E.hs E.ha E.hn E.ht E.hm) I.kIn J hk (fun z => nomatch z) fun tk => ⟨.bl b, H, I.kept (t' := tk) fun _ _ z => z, rfl, q⟩
def oIsx (K : PySem.W.Frag) : D → D → (T → Prop) → Prop := fun d e R => ∃ C fs u b, d = .exv C fs ∧ e.clsU = some u ∧ ExcC K C ∧ PySem.W.kitOne K (.ref C) u = some b ∧ R (.frz (.bl b))
theorem cv_isx : CallV2 X (.builtin "isinstance") (oIsx X.K) := ⟨_, call_isX, fun Z H d v d' v' R Q hs w w' ⟨C, fs, u, b, e1, e2, E, hk, q⟩ k => by
  subst e1
  cases w with
  | rz r =>
    obtain ⟨a, d, rfl, ha, _, hd⟩ := exv_at hs r
    exact ⟨a, C, d, _, u, b, rfl, ha, fun dd z => by obtain ⟨fs', h, _⟩ := hd dd z; exact ⟨fs', h⟩, clsU_at w' e2, E, hk, k.frz hs (.bl b) q⟩⟩
/-- x.f -/
def tXa (K : PySem.W.Frag) (f : Str) (te : TE) : TE := fun σ H Q => te σ H fun x H1 => ∃ (a C dd : Addr) (fs : List (Str × V)) (v : V), x = .ref a ∧ H1 a = some (exo a C (some dd)) ∧ H1 dd = some (exd dd fs) ∧ XfC K C ∧ PySem.W.findIn K (.ref C) f = some none ∧ fs.lookup f = some v ∧ Q v H1
theorem pe_xa {e : Expr} {te : TE} {pos : Pos} {n : Str} (he : PE X e te) (hb : attributeBase e n X.env (eval e X.env) = eval e X.env := by rfl) : PE X (.Attribute e n pos) (tXa X.K n te) := by
  constructor
  intro pins s σ H Q I want
  apply attr_of hb
  apply thn (he.run pins s σ H _ I want)
  rintro u s1 ⟨x, H1, I1, rx, a, C, dd, fs, v, rfl, ha, hd, T, hno, l, q⟩
  obtain rfl : u = Value.ref a := rx
  obtain ⟨t1, hget⟩ := exo_at I1.hok ha
  obtain ⟨mA, hns, hr⟩ := exd_at I1.hok hd
  obtain ⟨od, ho, hl⟩ := lookIn_ns hns
  obtain ⟨u, hu, ru⟩ := RelO.some_of (v := v) (o := mA n) (by rw [← l]; exact hr n)
  have J : PySem.W.InstAt s1.heap a ({ cls := .ref C, dict := some dd, data := .fields #[.ref t1, .none, .none, .none, .bool false, .none] } : Obj) C (some od) := ⟨hget, rfl, rfl, ho⟩
  exact HandSPX.exc_get I1.kIn J T.ga T.gg T.exC (PySem.W.findObj_own T.hdC hno rfl (by rw [hl, hu])) (handed_of ru) ⟨v, H1, I1.tok _, ru, q⟩
def mXa (K : PySem.W.Frag) (i : Nat) (f : Str) : ME := fun Γ R _ => ∃ C fs dv, Γ[i]? = some (some (.frz (.exv C fs))) ∧ XfC K C ∧ PySem.W.findIn K (.ref C) f = some none ∧ fs.lookup f = some dv ∧ R (.frz dv) Γ
theorem ve_xa (i : Nat) {x f : Str} {px pos : Pos} (hN : X.N[i]? = some x := by rfl) (hv : Vis X.env.scope x := by first | exact Or.inl rfl | exact Or.inr (Or.inl rfl) | exact Or.inr (Or.inr rfl)) (hd : (x == ("__debug__" : Str)) = false := by decide) (hcd : (x == ("__classdict__" : Str)) = false := by decide)
    (hb : attributeBase (.Name x px) f X.env (eval (.Name x px) X.env) = eval (.Name x px) X.env := by rfl) : VE X W (.Attribute (.Name x px) f pos) (mXa X.K i f) := by
  refine ⟨_, pe_xa (pe_var hN hv hd hcd) hb, fun Z H σ Γ F R XR Q hs rs m k xk => ?_⟩
  obtain ⟨C, fs, dv, et, T, hno, hl, q⟩ := m
  obtain ⟨v, G, ev, rp, _⟩ := rs.at et
  cases rp with
  | frz rz =>
    obtain ⟨a, d, rfl, ha, h0, h1⟩ := exv_at hs rz
    cases d with
    | none =>
      rw [h0 rfl] at hl
      cases hl
    | some dd =>
      obtain ⟨fs', hd', hk, hz⟩ := h1 dd rfl
      obtain ⟨w, hw, rw'⟩ := Rzs.lookup hk hz hl
      exact ⟨_, ev, a, C, dd, fs', w, rfl, ha, hd', T, hno, hw, k.pure hs rs rw' q⟩
end
/-! ### an __init__ that only calls super().__init__ -/
section
variable {P : Program} {w : World} {K : PySem.W.Frag} {mg : Str → Option Value} {base : Heap} {N ps : List Str} {qual : Str} {params : Arguments} {scope : Scope} {f C : Addr} {fd : FuncData}
theorem fn_sup0 {k : Nat} {e : Expr} {es : List Expr} {p0 p1 p2 p3 p4 : Pos} {ar : Arg} {g : MA} (S : SupS N ps scope) (F : SupF P K mg qual params [.Expr (.Call (.Attribute (.Call (.Name "super" p0) [] [] p1) "__init__" p2) (e :: es) [] p3) p4] scope C f fd)
    (hp : (params.posonlyargs ++ params.args).head? = some ar) (h0 : N[0]? = some ar.arg) (hl0 : scope.names.lookup ar.arg = some .local) (hnp : ps.length = 1)
    {pl : Addr → Addr → Addr → Sem Bool}
    (body : ∀ (cda cc : Addr) (A : Around) (outer : List Env) (s : Shared) (H : Hp) (E : XK), VA (cxS (L2.CX P w) P w K mg base N qual scope f cda cc A outer s H E) noW (e :: es) g)
    (good : g (List.replicate N.length none) (fun _ _ => True) noX) (hes : es.length < 1000 := by decide)
    (tx1 : ∀ (L cda cc : Addr), starEach (e :: es) (sEnv qual scope L f cda cc) = (false, eval e (sEnv qual scope L f cda cc)) :: starEach es (sEnv qual scope L f cda cc) := by intros; rfl)
    (tx2 : ∀ (L cda cc : Addr), (backTo p3 (starEach es (sEnv qual scope L f cda cc))).any (·.1) = false := by intros; rfl) (tx3 : ∀ (L cda cc : Addr), interactive (sEnv qual scope L f cda cc) = false := by intros; rfl)
    (tx4 : ∀ (L cda cc : Addr), swapsWith (.Call (.Attribute (.Call (.Name "super" p0) [] [] p1) "__init__" p2) (e :: es) [] p3) none p4.line (sEnv qual scope L f cda cc) = pure false := by intros; rfl)
    (tx6 : ∀ (L cda cc : Addr), eval (.Call (.Attribute (.Call (.Name "super" p0) [] [] p1) "__init__" p2) (e :: es) [] p3) (sEnv qual scope L f cda cc) = (do
        let ov ← attributeBase (.Call (.Name "super" p0) [] [] p1) "__init__" (sEnv qual scope L f cda cc) (eval (.Call (.Name "super" p0) [] [] p1) (sEnv qual scope L f cda cc))
        standAt p2.atName
        let (fn, first) ← holding [ov] (getMethod ov "__init__" (pl L cda cc))
        callWith p3 fn first (backTo p3 (starEach (e :: es) (sEnv qual scope L f cda cc))) []) := by intros; rfl) :
    FnOk P w K mg base (L2.CX P w) (k + 1) f fd ps (spX0 C) := by
  refine ⟨fun vs H Q E h => ?_, fun A outer s H args us vs Q E hr e0 hb r hsp => ?_⟩
  · obtain ⟨a, rfl, _⟩ := h
    exact hnp.symm
  · obtain ⟨oc, od, dV, kV, doc, pm, an, cda, cc, ct, osl, efd, lk, hcd', hcode, hcell⟩ := F.ex
    obtain ⟨a, rfl, ha, kQ⟩ := hsp
    have KX : K.In s.heap := e0.mod.kin.keeps fun b o e => (e0.bs b o e).1
    have lim : s.heap.NoLimit := e0.mod.nolimit.keeps fun b o e => (e0.bs b o e).1
    refine ks_codeAny_call_defAt hr.depth (KX _ _ lk) rfl lim (by rw [efd]; exact PySem.W.codeRec_of KX hcd') (by rw [efd]) hb (by rw [efd]; exact S.nocell) (by rw [efd]; exact fun ⟨x, u⟩ hy => S.par x (List.of_mem_zip hy).1) (fun g₁ hns kp => ?_) (by rw [efd]; exact S.co) (by rw [efd]; exact S.gen) (by rw [efd]; exact S.kind)
    have eenv : callEnv fd s.heap.objs.size f = sEnv qual scope s.heap.objs.size f cda cc := by rw [efd] <;> rfl
    rw [eenv]
    have I : Inv (cxS (L2.CX P w) P w K mg base N qual scope f cda cc A outer s H E) [] (L2.start N [.ref a]) H { s with heap := g₁, toks := s.toks + (ps.zip us).length } := inv_startS S hr.hd e0 hnp.symm r hcell hns kp
    obtain ⟨ta, pa, sa⟩ := (body cda cc A outer s H E).ex
    have t1 := tx1 s.heap.objs.size cda cc
    have t2 := tx2 s.heap.objs.size cda cc
    have t3 := tx3 s.heap.objs.size cda cc
    have t4 := tx4 s.heap.objs.size cda cc
    have t6 := tx6 s.heap.objs.size cda cc
    have σ0 : (L2.start N [.ref a])[0]? = some (some (.ref a)) := rfl
    have step := super_at (X := cxS (L2.CX P w) P w K mg base N qual scope f cda cc A outer s H E) (pl := pl s.heap.objs.size cda cc) (p4 := p4) (a := a) (ta := ta)
      (Q := fun fl s' => match fl with
        | .next => _root_.PySem.wpAt (model P w) (A.deeper (sEnv qual scope s.heap.objs.size f cda cc)) (.func [.Expr (.Call (.Attribute (.Call (.Name "super" p0) [] [] p1) "__init__" p2) (e :: es) [] p3) p4] (sEnv qual scope s.heap.objs.size f cda cc)) (execs [] (sEnv qual scope s.heap.objs.size f cda cc))
            (fun fl s' => CR (L2.CX P w) outer P w H s Q E (.ok (.ret (match fl with | .ret v => v | _ => .none))) s') (cxS (L2.CX P w) P w K mg base N qual scope f cda cc A outer s H E).xe s'
        | fl => CR (L2.CX P w) outer P w H s Q E (.ok (.ret (match fl with | .ret v => v | _ => .none))) s') rfl rfl rfl rfl S F efd lk hcode hcell hp h0 hl0 I σ0 ha pa ?_ t1 t2 t6 t3 t4
    · exact ks_wpAt_execs_cons step
    · have rs : Rsl K (fun _ => none) H (List.replicate N.length none) (L2.start N [.ref a]) [] := by
        have e1 : L2.start N [.ref a] = some (.ref a) :: List.replicate (N.length - 1) none := rfl
        have e2 : List.replicate N.length (none : Option T) = none :: List.replicate (N.length - 1) none := by
          cases N with
          | nil => cases h0
          | cons => rfl
        rw [e1, e2]
        exact .gap (rsl_frz (ds := []) _ .nil)
      refine sa (fun _ => none) H _ _ [] _ noX _ (fun _ _ z => nomatch z) rs good (fun Z0 H1 Γ1 F1 d1 v1 G s0 e0' r0 p1' n1' l1 qq1 => ?_) xok_no
      refine ⟨(e0'.fr a _ ha (by simp)).1, by rw [l1, List.length_cons]; omega, fun s2 I2 => wpAt_of_wpAny ?_⟩
      exact wpAny_pure ⟨.non, H1, I2.os, I2.bare, I2.base, I2.hok, rfl, kQ H1 fun b o z => (e0'.fr b o z (by simp)).1⟩
end
end VL
set_option Elab.async false
set_option linter.all false
set_option autoImplicit false
set_option maxRecDepth 100000
set_option maxHeartbeats 4000000
/-! VL28: exceptions as values by their promises. -/
namespace VL
open PySem PySem.Spec PySem.Calls L2
open PyProof.Rows hiding St
def OkE0 (P : Program) (w : World) (K : PySem.W.Frag) (mg : Str → Option Value) (base : Heap) (lv : Nat) (f : Addr) (ps : List Str) (C : Addr) : Prop := ∃ fd, FnOk P w K mg base (L2.CX P w) lv f fd ps (spX0 C) ∧ Binds K fd ps []
section
variable {X : Cx} {W : WX} {lv k n : Nat} {fI C : Addr} {ps : List Str} {x : Str} {p pos : Pos} {e : Expr} {es : List Expr} {ok : List D → (List (Str × D) → Prop) → Prop}
theorem ve_mkvO {a : MA} (o : OkE X.prog X.w X.K X.mg X.base lv fI ps n C ok) (c : XcC X.K C fI) (hr : RoomG k X.A) (hm : X.mg x = some (.ref C)) (ha : VA X W (e :: es) a) (hlv : lv + 1 ≤ k := by decide) (hg : Gl X x := by rfl) (hes : es.length < 1000 := by decide)
    (hdb : (x == ("__debug__" : Str)) = false := by decide) (he : starEach (e :: es) X.env = (false, eval e X.env) :: starEach es X.env := by rfl) (hpl : (backTo pos (starEach es X.env)).any (·.1) = false := by rfl) : VE X W (.Call (.Name x p) (e :: es) [] pos) (mXv C n ok a) := by
  obtain ⟨fd, F, hb⟩ := o
  exact ve_mkv c.oex c.ini c.fn F (hr.room.mono hlv) hb hg hm ha hes hdb he hpl
theorem ve_mkv0O (o : OkE0 X.prog X.w X.K X.mg X.base lv fI ps C) (c : XcC X.K C fI) (hr : RoomG k X.A) (hm : X.mg x = some (.ref C)) (hlv : lv + 1 ≤ k := by decide) (hg : Gl X x := by rfl)
    (hdb : (x == ("__debug__" : Str)) = false := by decide) : VE X W (.Call (.Name x p) [] [] pos) (mC (.exv C [])) := by
  obtain ⟨fd, F, hb⟩ := o
  exact ve_mkv0 c.oex c.ini c.fn F (hr.room.mono hlv) hb hg hm hdb
theorem ve_bty {T : String} (hm : X.mg x = none) (hv : bootBuiltins x = some (.type T)) (hg : Gl X x := by rfl) (hn : x ≠ "__name__" := by decide) (hd : (x == ("__debug__" : Str)) = false := by decide) : VE X W (.Name x pos) (mC (.ty T)) :=
  ve_bltn hg hm hv (v := .ty T) rfl (fun _ => .ty T) hn hd
end
section
variable {K : PySem.W.Frag} {C E : Addr} {fs : List (Str × D)} {R : T → Prop} {n : Nat} {ok : List D → (List (Str × D) → Prop) → Prop} {g : MA} {Γ : Sl} {RR : T → Sl → Prop} {XR : XRl} {i : Nat} {f : Str}
@[simp] theorem x_isx : oIsx K (.exv C fs) (.ref E) R = ∃ b, ExcC K C ∧ PySem.W.kitOne K (.ref C) (.ref E) = some b ∧ R (.frz (.bl b)) := by
  apply propext
  constructor
  · rintro ⟨C', fs', u, b, e1, e2, h⟩
    cases e1
    cases e2
    exact ⟨b, h⟩
  · rintro ⟨b, h⟩
    exact ⟨_, _, _, b, rfl, rfl, h⟩
@[simp] theorem x_isxT {T : String} : oIsx K (.exv C fs) (.ty T) R = ∃ b, ExcC K C ∧ PySem.W.kitOne K (.ref C) (.type T) = some b ∧ R (.frz (.bl b)) := by
  apply propext
  constructor
  · rintro ⟨C', fs', u, b, e1, e2, h⟩
    cases e1
    cases e2
    exact ⟨b, h⟩
  · rintro ⟨b, h⟩
    exact ⟨_, _, _, b, rfl, rfl, h⟩
@[simp] theorem x_mXv : mXv C n ok g Γ RR XR = g Γ (fun ts Γ' => ts.length = n ∧ ok (ts.map T.toD) fun fs => RR (.frz (.exv C fs)) Γ') XR := rfl
@[simp] theorem x_join {ms : List ME} : mJoin ms Γ RR XR = mJs ms Str.empty Γ (fun s Γ' => RR (.frz (.str s)) Γ') XR := rfl
@[simp] theorem x_js0 {acc : Str} {Q : Str → Sl → Prop} : mJs [] acc Γ Q XR = Q acc Γ := rfl
@[simp] theorem x_js1 {acc : Str} {m : ME} {ms : List ME} {Q : Str → Sl → Prop} : mJs (m :: ms) acc Γ Q XR = m Γ (fun t Γ' => ∃ y, t = .frz (.str y) ∧ (acc ++ y).length ≤ sizeLine ∧ mJs ms (acc ++ y) Γ' Q XR) XR := rfl
@[simp] theorem x_fmtI {j : Int} : oFmt (.int j) R = (j.natAbs.log2 < 1920 ∧ R (.frz (.str (Str.ofString (toString j))))) := rfl
@[simp] theorem x_fmtS {s : Str} : oFmt (.str s) R = (s.length ≤ sizeLine ∧ R (.frz (.str s))) := rfl
def slX (Γ : Sl) (i : Nat) (k : Addr → List (Str × D) → Prop) : Prop := match Γ[i]? with
  | some (some (.frz (.exv C fs))) => k C fs
  | _ => False
@[simp] theorem x_mXa : mXa K i f Γ RR XR = slX Γ i fun C fs => XfC K C ∧ PySem.W.findIn K (.ref C) f = some none ∧ ∃ dv, fs.lookup f = some dv ∧ RR (.frz dv) Γ := by
  apply propext
  unfold mXa slX
  constructor
  · rintro ⟨C, fs, dv, e, h1, h2, h3, h4⟩
    rw [e]
    exact ⟨h1, h2, dv, h3, h4⟩
  · intro h
    split at h
    · rename_i C fs e
      obtain ⟨h1, h2, dv, h3, h4⟩ := h
      exact ⟨C, fs, dv, e, h1, h2, h3, h4⟩
    · exact h.elim
@[simp] theorem x_slX0 {r : Sl} {k : Addr → List (Str × D) → Prop} : slX (some (.frz (.exv C fs)) :: r) 0 k = k C fs := rfl
@[simp] theorem x_slXs {o : Option T} {r : Sl} {k : Addr → List (Str × D) → Prop} : slX (o :: r) (i + 1) k = slX r i k := by unfold slX; simp
end
end VL
set_option Elab.async false
set_option linter.all false
set_option autoImplicit false
set_option maxRecDepth 100000
set_option maxHeartbeats 4000000
namespace K18
open PySem PySem.Spec PySem.Calls L2 VL
open PyProof.Rows hiding St
def top (i : Nat) : Stmt := PySem.Challenge.pw_seatedtwice_k18_errors.main.body.getD i (.Pass ⟨0, 0, 0, 0⟩)
def mth (i j : Nat) : Stmt := match top i with | .ClassDef _ _ _ body _ _ _ _ _ _ _ => body.getD j (.Pass ⟨0, 0, 0, 0⟩) | s => s
abbrev s_BadScene_init : Stmt := mth 2 0
abbrev N_BadScene_init : List Str := ["self", "line"]
abbrev P_BadScene_init : List Str := ["self", "line"]
theorem sc_BadScene_init : SupS N_BadScene_init P_BadScene_init (defScope s_BadScene_init) := ⟨rfl, rfl, rfl, by decide +kernel, rfl, by decide +kernel, by decide +kernel, by decide +kernel, rfl, rfl⟩
def g_BadScene_init : MA := (mAc (mJoin [(mC (.str "line ")), (mO1 oFmt (.nm 1)), (mC (.str " of the scene is wrong"))]) mA0)
def e_BadScene_init : ME := (mNm 1)
abbrev ok_BadScene : List D → (List (Str × D) → Prop) → Prop := okX N_BadScene_init g_BadScene_init "line" e_BadScene_init
theorem oe_BadScene {P : Program} {w : World} {K : PySem.W.Frag} {mg : Str → Option Value} {base : Heap} {C fI : Addr} {fd : FuncData} (F : SupF P K mg "BadScene.__init__" (defArgs s_BadScene_init) (defBody s_BadScene_init) (defScope s_BadScene_init) C fI fd) (hno : PySem.W.findIn K (.ref C) "line" = some none) : FnOk P w K mg base (L2.CX P w) 1 fI fd P_BadScene_init (spX K 1 C ok_BadScene) :=
  fn_sup (k := 0) (n := 1) (g := g_BadScene_init) (me := e_BadScene_init) (fld := "line") sc_BadScene_init F rfl rfl rfl rfl rfl hno (fun _ _ _ _ _ _ _ => ⟨(va_cons (ve_joined (.cons (ve_str) (.cons (ve_fmt (vo_nm 1)) (.cons (ve_str) .nil)))) va_nil), (ve_nm 1)⟩)
abbrev s_BadWorld_init : Stmt := mth 3 0
abbrev N_BadWorld_init : List Str := ["self", "line"]
abbrev P_BadWorld_init : List Str := ["self", "line"]
theorem sc_BadWorld_init : SupS N_BadWorld_init P_BadWorld_init (defScope s_BadWorld_init) := ⟨rfl, rfl, rfl, by decide +kernel, rfl, by decide +kernel, by decide +kernel, by decide +kernel, rfl, rfl⟩
def g_BadWorld_init : MA := (mAc (mJoin [(mC (.str "line ")), (mO1 oFmt (.nm 1)), (mC (.str " of the world is wrong"))]) mA0)
def e_BadWorld_init : ME := (mNm 1)
abbrev ok_BadWorld : List D → (List (Str × D) → Prop) → Prop := okX N_BadWorld_init g_BadWorld_init "line" e_BadWorld_init
theorem oe_BadWorld {P : Program} {w : World} {K : PySem.W.Frag} {mg : Str → Option Value} {base : Heap} {C fI : Addr} {fd : FuncData} (F : SupF P K mg "BadWorld.__init__" (defArgs s_BadWorld_init) (defBody s_BadWorld_init) (defScope s_BadWorld_init) C fI fd) (hno : PySem.W.findIn K (.ref C) "line" = some none) : FnOk P w K mg base (L2.CX P w) 1 fI fd P_BadWorld_init (spX K 1 C ok_BadWorld) :=
  fn_sup (k := 0) (n := 1) (g := g_BadWorld_init) (me := e_BadWorld_init) (fld := "line") sc_BadWorld_init F rfl rfl rfl rfl rfl hno (fun _ _ _ _ _ _ _ => ⟨(va_cons (ve_joined (.cons (ve_str) (.cons (ve_fmt (vo_nm 1)) (.cons (ve_str) .nil)))) va_nil), (ve_nm 1)⟩)
abbrev s_BadScript_init : Stmt := mth 4 0
abbrev N_BadScript_init : List Str := ["self", "line"]
abbrev P_BadScript_init : List Str := ["self", "line"]
theorem sc_BadScript_init : SupS N_BadScript_init P_BadScript_init (defScope s_BadScript_init) := ⟨rfl, rfl, rfl, by decide +kernel, rfl, by decide +kernel, by decide +kernel, by decide +kernel, rfl, rfl⟩
def g_BadScript_init : MA := (mAc (mJoin [(mC (.str "line ")), (mO1 oFmt (.nm 1)), (mC (.str " of the script is wrong"))]) mA0)
def e_BadScript_init : ME := (mNm 1)
abbrev ok_BadScript : List D → (List (Str × D) → Prop) → Prop := okX N_BadScript_init g_BadScript_init "line" e_BadScript_init
theorem oe_BadScript {P : Program} {w : World} {K : PySem.W.Frag} {mg : Str → Option Value} {base : Heap} {C fI : Addr} {fd : FuncData} (F : SupF P K mg "BadScript.__init__" (defArgs s_BadScript_init) (defBody s_BadScript_init) (defScope s_BadScript_init) C fI fd) (hno : PySem.W.findIn K (.ref C) "line" = some none) : FnOk P w K mg base (L2.CX P w) 1 fI fd P_BadScript_init (spX K 1 C ok_BadScript) :=
  fn_sup (k := 0) (n := 1) (g := g_BadScript_init) (me := e_BadScript_init) (fld := "line") sc_BadScript_init F rfl rfl rfl rfl rfl hno (fun _ _ _ _ _ _ _ => ⟨(va_cons (ve_joined (.cons (ve_str) (.cons (ve_fmt (vo_nm 1)) (.cons (ve_str) .nil)))) va_nil), (ve_nm 1)⟩)
abbrev s_BadSaying_init : Stmt := mth 5 0
abbrev N_BadSaying_init : List Str := ["self", "index"]
abbrev P_BadSaying_init : List Str := ["self", "index"]
theorem sc_BadSaying_init : SupS N_BadSaying_init P_BadSaying_init (defScope s_BadSaying_init) := ⟨rfl, rfl, rfl, by decide +kernel, rfl, by decide +kernel, by decide +kernel, by decide +kernel, rfl, rfl⟩
def g_BadSaying_init : MA := (mAc (mJoin [(mC (.str "word ")), (mO1 oFmt (.nm 1)), (mC (.str " of the saying is wrong"))]) mA0)
def e_BadSaying_init : ME := (mNm 1)
abbrev ok_BadSaying : List D → (List (Str × D) → Prop) → Prop := okX N_BadSaying_init g_BadSaying_init "index" e_BadSaying_init
theorem oe_BadSaying {P : Program} {w : World} {K : PySem.W.Frag} {mg : Str → Option Value} {base : Heap} {C fI : Addr} {fd : FuncData} (F : SupF P K mg "BadSaying.__init__" (defArgs s_BadSaying_init) (defBody s_BadSaying_init) (defScope s_BadSaying_init) C fI fd) (hno : PySem.W.findIn K (.ref C) "index" = some none) : FnOk P w K mg base (L2.CX P w) 1 fI fd P_BadSaying_init (spX K 1 C ok_BadSaying) :=
  fn_sup (k := 0) (n := 1) (g := g_BadSaying_init) (me := e_BadSaying_init) (fld := "index") sc_BadSaying_init F rfl rfl rfl rfl rfl hno (fun _ _ _ _ _ _ _ => ⟨(va_cons (ve_joined (.cons (ve_str) (.cons (ve_fmt (vo_nm 1)) (.cons (ve_str) .nil)))) va_nil), (ve_nm 1)⟩)
abbrev s_BadWalk_init : Stmt := mth 6 0
abbrev N_BadWalk_init : List Str := ["self", "index"]
abbrev P_BadWalk_init : List Str := ["self", "index"]
theorem sc_BadWalk_init : SupS N_BadWalk_init P_BadWalk_init (defScope s_BadWalk_init) := ⟨rfl, rfl, rfl, by decide +kernel, rfl, by decide +kernel, by decide +kernel, by decide +kernel, rfl, rfl⟩
def g_BadWalk_init : MA := (mAc (mJoin [(mC (.str "word ")), (mO1 oFmt (.nm 1)), (mC (.str " of the walk is wrong"))]) mA0)
def e_BadWalk_init : ME := (mNm 1)
abbrev ok_BadWalk : List D → (List (Str × D) → Prop) → Prop := okX N_BadWalk_init g_BadWalk_init "index" e_BadWalk_init
theorem oe_BadWalk {P : Program} {w : World} {K : PySem.W.Frag} {mg : Str → Option Value} {base : Heap} {C fI : Addr} {fd : FuncData} (F : SupF P K mg "BadWalk.__init__" (defArgs s_BadWalk_init) (defBody s_BadWalk_init) (defScope s_BadWalk_init) C fI fd) (hno : PySem.W.findIn K (.ref C) "index" = some none) : FnOk P w K mg base (L2.CX P w) 1 fI fd P_BadWalk_init (spX K 1 C ok_BadWalk) :=
  fn_sup (k := 0) (n := 1) (g := g_BadWalk_init) (me := e_BadWalk_init) (fld := "index") sc_BadWalk_init F rfl rfl rfl rfl rfl hno (fun _ _ _ _ _ _ _ => ⟨(va_cons (ve_joined (.cons (ve_str) (.cons (ve_fmt (vo_nm 1)) (.cons (ve_str) .nil)))) va_nil), (ve_nm 1)⟩)
abbrev s_NoThing_init : Stmt := mth 7 0
abbrev N_NoThing_init : List Str := ["self", "name"]
abbrev P_NoThing_init : List Str := ["self", "name"]
theorem sc_NoThing_init : SupS N_NoThing_init P_NoThing_init (defScope s_NoThing_init) := ⟨rfl, rfl, rfl, by decide +kernel, rfl, by decide +kernel, by decide +kernel, by decide +kernel, rfl, rfl⟩
def g_NoThing_init : MA := (mAc (mJoin [(mC (.str "no thing: ")), (mO1 oFmt (.nm 1))]) mA0)
def e_NoThing_init : ME := (mNm 1)
abbrev ok_NoThing : List D → (List (Str × D) → Prop) → Prop := okX N_NoThing_init g_NoThing_init "name" e_NoThing_init
theorem oe_NoThing {P : Program} {w : World} {K : PySem.W.Frag} {mg : Str → Option Value} {base : Heap} {C fI : Addr} {fd : FuncData} (F : SupF P K mg "NoThing.__init__" (defArgs s_NoThing_init) (defBody s_NoThing_init) (defScope s_NoThing_init) C fI fd) (hno : PySem.W.findIn K (.ref C) "name" = some none) : FnOk P w K mg base (L2.CX P w) 1 fI fd P_NoThing_init (spX K 1 C ok_NoThing) :=
  fn_sup (k := 0) (n := 1) (g := g_NoThing_init) (me := e_NoThing_init) (fld := "name") sc_NoThing_init F rfl rfl rfl rfl rfl hno (fun _ _ _ _ _ _ _ => ⟨(va_cons (ve_joined (.cons (ve_str) (.cons (ve_fmt (vo_nm 1)) .nil))) va_nil), (ve_nm 1)⟩)
abbrev s_NoRow_init : Stmt := mth 8 0
abbrev N_NoRow_init : List Str := ["self", "name"]
abbrev P_NoRow_init : List Str := ["self", "name"]
theorem sc_NoRow_init : SupS N_NoRow_init P_NoRow_init (defScope s_NoRow_init) := ⟨rfl, rfl, rfl, by decide +kernel, rfl, by decide +kernel, by decide +kernel, by decide +kernel, rfl, rfl⟩
def g_NoRow_init : MA := (mAc (mJoin [(mC (.str "no row: ")), (mO1 oFmt (.nm 1))]) mA0)
def e_NoRow_init : ME := (mNm 1)
abbrev ok_NoRow : List D → (List (Str × D) → Prop) → Prop := okX N_NoRow_init g_NoRow_init "name" e_NoRow_init
theorem oe_NoRow {P : Program} {w : World} {K : PySem.W.Frag} {mg : Str → Option Value} {base : Heap} {C fI : Addr} {fd : FuncData} (F : SupF P K mg "NoRow.__init__" (defArgs s_NoRow_init) (defBody s_NoRow_init) (defScope s_NoRow_init) C fI fd) (hno : PySem.W.findIn K (.ref C) "name" = some none) : FnOk P w K mg base (L2.CX P w) 1 fI fd P_NoRow_init (spX K 1 C ok_NoRow) :=
  fn_sup (k := 0) (n := 1) (g := g_NoRow_init) (me := e_NoRow_init) (fld := "name") sc_NoRow_init F rfl rfl rfl rfl rfl hno (fun _ _ _ _ _ _ _ => ⟨(va_cons (ve_joined (.cons (ve_str) (.cons (ve_fmt (vo_nm 1)) .nil))) va_nil), (ve_nm 1)⟩)
abbrev s_NoMark_init : Stmt := mth 9 0
abbrev N_NoMark_init : List Str := ["self", "name"]
abbrev P_NoMark_init : List Str := ["self", "name"]
theorem sc_NoMark_init : SupS N_NoMark_init P_NoMark_init (defScope s_NoMark_init) := ⟨rfl, rfl, rfl, by decide +kernel, rfl, by decide +kernel, by decide +kernel, by decide +kernel, rfl, rfl⟩
def g_NoMark_init : MA := (mAc (mJoin [(mC (.str "no mark: ")), (mO1 oFmt (.nm 1))]) mA0)
def e_NoMark_init : ME := (mNm 1)
abbrev ok_NoMark : List D → (List (Str × D) → Prop) → Prop := okX N_NoMark_init g_NoMark_init "name" e_NoMark_init
theorem oe_NoMark {P : Program} {w : World} {K : PySem.W.Frag} {mg : Str → Option Value} {base : Heap} {C fI : Addr} {fd : FuncData} (F : SupF P K mg "NoMark.__init__" (defArgs s_NoMark_init) (defBody s_NoMark_init) (defScope s_NoMark_init) C fI fd) (hno : PySem.W.findIn K (.ref C) "name" = some none) : FnOk P w K mg base (L2.CX P w) 1 fI fd P_NoMark_init (spX K 1 C ok_NoMark) :=
  fn_sup (k := 0) (n := 1) (g := g_NoMark_init) (me := e_NoMark_init) (fld := "name") sc_NoMark_init F rfl rfl rfl rfl rfl hno (fun _ _ _ _ _ _ _ => ⟨(va_cons (ve_joined (.cons (ve_str) (.cons (ve_fmt (vo_nm 1)) .nil))) va_nil), (ve_nm 1)⟩)
abbrev s_NoLots_init : Stmt := mth 10 0
abbrev N_NoLots_init : List Str := ["self"]
abbrev P_NoLots_init : List Str := ["self"]
theorem sc_NoLots_init : SupS N_NoLots_init P_NoLots_init (defScope s_NoLots_init) := ⟨rfl, rfl, rfl, by decide +kernel, rfl, by decide +kernel, by decide +kernel, by decide +kernel, rfl, rfl⟩
theorem oe_NoLots {P : Program} {w : World} {K : PySem.W.Frag} {mg : Str → Option Value} {base : Heap} {C fI : Addr} {fd : FuncData} (F : SupF P K mg "NoLots.__init__" (defArgs s_NoLots_init) (defBody s_NoLots_init) (defScope s_NoLots_init) C fI fd) : FnOk P w K mg base (L2.CX P w) 1 fI fd P_NoLots_init (spX0 C) :=
  fn_sup0 (k := 0) (g := (mAc (mC (.str "no lots")) mA0)) sc_NoLots_init F rfl rfl rfl rfl (fun _ _ _ _ _ _ _ => (va_cons (ve_str) va_nil)) trivial
abbrev s_BadInputs_init : Stmt := mth 11 0
abbrev N_BadInputs_init : List Str := ["self", "index"]
abbrev P_BadInputs_init : List Str := ["self", "index"]
theorem sc_BadInputs_init : SupS N_BadInputs_init P_BadInputs_init (defScope s_BadInputs_init) := ⟨rfl, rfl, rfl, by decide +kernel, rfl, by decide +kernel, by decide +kernel, by decide +kernel, rfl, rfl⟩
def g_BadInputs_init : MA := (mAc (mJoin [(mC (.str "input ")), (mO1 oFmt (.nm 1)), (mC (.str " is wrong"))]) mA0)
def e_BadInputs_init : ME := (mNm 1)
abbrev ok_BadInputs : List D → (List (Str × D) → Prop) → Prop := okX N_BadInputs_init g_BadInputs_init "index" e_BadInputs_init
theorem oe_BadInputs {P : Program} {w : World} {K : PySem.W.Frag} {mg : Str → Option Value} {base : Heap} {C fI : Addr} {fd : FuncData} (F : SupF P K mg "BadInputs.__init__" (defArgs s_BadInputs_init) (defBody s_BadInputs_init) (defScope s_BadInputs_init) C fI fd) (hno : PySem.W.findIn K (.ref C) "index" = some none) : FnOk P w K mg base (L2.CX P w) 1 fI fd P_BadInputs_init (spX K 1 C ok_BadInputs) :=
  fn_sup (k := 0) (n := 1) (g := g_BadInputs_init) (me := e_BadInputs_init) (fld := "index") sc_BadInputs_init F rfl rfl rfl rfl rfl hno (fun _ _ _ _ _ _ _ => ⟨(va_cons (ve_joined (.cons (ve_str) (.cons (ve_fmt (vo_nm 1)) (.cons (ve_str) .nil)))) va_nil), (ve_nm 1)⟩)
abbrev s_OtherScene_init : Stmt := mth 12 0
abbrev N_OtherScene_init : List Str := ["self"]
abbrev P_OtherScene_init : List Str := ["self"]
theorem sc_OtherScene_init : SupS N_OtherScene_init P_OtherScene_init (defScope s_OtherScene_init) := ⟨rfl, rfl, rfl, by decide +kernel, rfl, by decide +kernel, by decide +kernel, by decide +kernel, rfl, rfl⟩
theorem oe_OtherScene {P : Program} {w : World} {K : PySem.W.Frag} {mg : Str → Option Value} {base : Heap} {C fI : Addr} {fd : FuncData} (F : SupF P K mg "OtherScene.__init__" (defArgs s_OtherScene_init) (defBody s_OtherScene_init) (defScope s_OtherScene_init) C fI fd) : FnOk P w K mg base (L2.CX P w) 1 fI fd P_OtherScene_init (spX0 C) :=
  fn_sup0 (k := 0) (g := (mAc (mC (.str "the scenes are not the same")) mA0)) sc_OtherScene_init F rfl rfl rfl rfl (fun _ _ _ _ _ _ _ => (va_cons (ve_str) va_nil)) trivial
abbrev s_Unlike_init : Stmt := mth 13 0
abbrev N_Unlike_init : List Str := ["self"]
abbrev P_Unlike_init : List Str := ["self"]
theorem sc_Unlike_init : SupS N_Unlike_init P_Unlike_init (defScope s_Unlike_init) := ⟨rfl, rfl, rfl, by decide +kernel, rfl, by decide +kernel, by decide +kernel, by decide +kernel, rfl, rfl⟩
theorem oe_Unlike {P : Program} {w : World} {K : PySem.W.Frag} {mg : Str → Option Value} {base : Heap} {C fI : Addr} {fd : FuncData} (F : SupF P K mg "Unlike.__init__" (defArgs s_Unlike_init) (defBody s_Unlike_init) (defScope s_Unlike_init) C fI fd) : FnOk P w K mg base (L2.CX P w) 1 fI fd P_Unlike_init (spX0 C) :=
  fn_sup0 (k := 0) (g := (mAc (mC (.str "the numbers of inputs or outputs are unlike")) mA0)) sc_Unlike_init F rfl rfl rfl rfl (fun _ _ _ _ _ _ _ => (va_cons (ve_str) va_nil)) trivial
abbrev s_NotBare_init : Stmt := mth 14 0
abbrev N_NotBare_init : List Str := ["self", "index"]
abbrev P_NotBare_init : List Str := ["self", "index"]
theorem sc_NotBare_init : SupS N_NotBare_init P_NotBare_init (defScope s_NotBare_init) := ⟨rfl, rfl, rfl, by decide +kernel, rfl, by decide +kernel, by decide +kernel, by decide +kernel, rfl, rfl⟩
def g_NotBare_init : MA := (mAc (mJoin [(mC (.str "saying ")), (mO1 oFmt (.nm 1)), (mC (.str " has registers"))]) mA0)
def e_NotBare_init : ME := (mNm 1)
abbrev ok_NotBare : List D → (List (Str × D) → Prop) → Prop := okX N_NotBare_init g_NotBare_init "index" e_NotBare_init
theorem oe_NotBare {P : Program} {w : World} {K : PySem.W.Frag} {mg : Str → Option Value} {base : Heap} {C fI : Addr} {fd : FuncData} (F : SupF P K mg "NotBare.__init__" (defArgs s_NotBare_init) (defBody s_NotBare_init) (defScope s_NotBare_init) C fI fd) (hno : PySem.W.findIn K (.ref C) "index" = some none) : FnOk P w K mg base (L2.CX P w) 1 fI fd P_NotBare_init (spX K 1 C ok_NotBare) :=
  fn_sup (k := 0) (n := 1) (g := g_NotBare_init) (me := e_NotBare_init) (fld := "index") sc_NotBare_init F rfl rfl rfl rfl rfl hno (fun _ _ _ _ _ _ _ => ⟨(va_cons (ve_joined (.cons (ve_str) (.cons (ve_fmt (vo_nm 1)) (.cons (ve_str) .nil)))) va_nil), (ve_nm 1)⟩)
abbrev s_BadName_init : Stmt := mth 15 0
abbrev N_BadName_init : List Str := ["self", "name"]
abbrev P_BadName_init : List Str := ["self", "name"]
theorem sc_BadName_init : SupS N_BadName_init P_BadName_init (defScope s_BadName_init) := ⟨rfl, rfl, rfl, by decide +kernel, rfl, by decide +kernel, by decide +kernel, by decide +kernel, rfl, rfl⟩
def g_BadName_init : MA := (mAc (mJoin [(mC (.str "no name: ")), (mO1 oFmt (.nm 1))]) mA0)
def e_BadName_init : ME := (mNm 1)
abbrev ok_BadName : List D → (List (Str × D) → Prop) → Prop := okX N_BadName_init g_BadName_init "name" e_BadName_init
theorem oe_BadName {P : Program} {w : World} {K : PySem.W.Frag} {mg : Str → Option Value} {base : Heap} {C fI : Addr} {fd : FuncData} (F : SupF P K mg "BadName.__init__" (defArgs s_BadName_init) (defBody s_BadName_init) (defScope s_BadName_init) C fI fd) (hno : PySem.W.findIn K (.ref C) "name" = some none) : FnOk P w K mg base (L2.CX P w) 1 fI fd P_BadName_init (spX K 1 C ok_BadName) :=
  fn_sup (k := 0) (n := 1) (g := g_BadName_init) (me := e_BadName_init) (fld := "name") sc_BadName_init F rfl rfl rfl rfl rfl hno (fun _ _ _ _ _ _ _ => ⟨(va_cons (ve_joined (.cons (ve_str) (.cons (ve_fmt (vo_nm 1)) .nil))) va_nil), (ve_nm 1)⟩)
abbrev s_NoButton_init : Stmt := mth 16 0
abbrev N_NoButton_init : List Str := ["self", "name"]
abbrev P_NoButton_init : List Str := ["self", "name"]
theorem sc_NoButton_init : SupS N_NoButton_init P_NoButton_init (defScope s_NoButton_init) := ⟨rfl, rfl, rfl, by decide +kernel, rfl, by decide +kernel, by decide +kernel, by decide +kernel, rfl, rfl⟩
def g_NoButton_init : MA := (mAc (mJoin [(mC (.str "no button: ")), (mO1 oFmt (.nm 1))]) mA0)
def e_NoButton_init : ME := (mNm 1)
abbrev ok_NoButton : List D → (List (Str × D) → Prop) → Prop := okX N_NoButton_init g_NoButton_init "name" e_NoButton_init
theorem oe_NoButton {P : Program} {w : World} {K : PySem.W.Frag} {mg : Str → Option Value} {base : Heap} {C fI : Addr} {fd : FuncData} (F : SupF P K mg "NoButton.__init__" (defArgs s_NoButton_init) (defBody s_NoButton_init) (defScope s_NoButton_init) C fI fd) (hno : PySem.W.findIn K (.ref C) "name" = some none) : FnOk P w K mg base (L2.CX P w) 1 fI fd P_NoButton_init (spX K 1 C ok_NoButton) :=
  fn_sup (k := 0) (n := 1) (g := g_NoButton_init) (me := e_NoButton_init) (fld := "name") sc_NoButton_init F rfl rfl rfl rfl rfl hno (fun _ _ _ _ _ _ _ => ⟨(va_cons (ve_joined (.cons (ve_str) (.cons (ve_fmt (vo_nm 1)) .nil))) va_nil), (ve_nm 1)⟩)
abbrev s_Taken_init : Stmt := mth 17 0
abbrev N_Taken_init : List Str := ["self", "name"]
abbrev P_Taken_init : List Str := ["self", "name"]
theorem sc_Taken_init : SupS N_Taken_init P_Taken_init (defScope s_Taken_init) := ⟨rfl, rfl, rfl, by decide +kernel, rfl, by decide +kernel, by decide +kernel, by decide +kernel, rfl, rfl⟩
def g_Taken_init : MA := (mAc (mJoin [(mC (.str "taken: ")), (mO1 oFmt (.nm 1))]) mA0)
def e_Taken_init : ME := (mNm 1)
abbrev ok_Taken : List D → (List (Str × D) → Prop) → Prop := okX N_Taken_init g_Taken_init "name" e_Taken_init
theorem oe_Taken {P : Program} {w : World} {K : PySem.W.Frag} {mg : Str → Option Value} {base : Heap} {C fI : Addr} {fd : FuncData} (F : SupF P K mg "Taken.__init__" (defArgs s_Taken_init) (defBody s_Taken_init) (defScope s_Taken_init) C fI fd) (hno : PySem.W.findIn K (.ref C) "name" = some none) : FnOk P w K mg base (L2.CX P w) 1 fI fd P_Taken_init (spX K 1 C ok_Taken) :=
  fn_sup (k := 0) (n := 1) (g := g_Taken_init) (me := e_Taken_init) (fld := "name") sc_Taken_init F rfl rfl rfl rfl rfl hno (fun _ _ _ _ _ _ _ => ⟨(va_cons (ve_joined (.cons (ve_str) (.cons (ve_fmt (vo_nm 1)) .nil))) va_nil), (ve_nm 1)⟩)
abbrev s_NoGuard_init : Stmt := mth 18 0
abbrev N_NoGuard_init : List Str := ["self", "name"]
abbrev P_NoGuard_init : List Str := ["self", "name"]
theorem sc_NoGuard_init : SupS N_NoGuard_init P_NoGuard_init (defScope s_NoGuard_init) := ⟨rfl, rfl, rfl, by decide +kernel, rfl, by decide +kernel, by decide +kernel, by decide +kernel, rfl, rfl⟩
def g_NoGuard_init : MA := (mAc (mJoin [(mC (.str "no guard: ")), (mO1 oFmt (.nm 1))]) mA0)
def e_NoGuard_init : ME := (mNm 1)
abbrev ok_NoGuard : List D → (List (Str × D) → Prop) → Prop := okX N_NoGuard_init g_NoGuard_init "name" e_NoGuard_init
theorem oe_NoGuard {P : Program} {w : World} {K : PySem.W.Frag} {mg : Str → Option Value} {base : Heap} {C fI : Addr} {fd : FuncData} (F : SupF P K mg "NoGuard.__init__" (defArgs s_NoGuard_init) (defBody s_NoGuard_init) (defScope s_NoGuard_init) C fI fd) (hno : PySem.W.findIn K (.ref C) "name" = some none) : FnOk P w K mg base (L2.CX P w) 1 fI fd P_NoGuard_init (spX K 1 C ok_NoGuard) :=
  fn_sup (k := 0) (n := 1) (g := g_NoGuard_init) (me := e_NoGuard_init) (fld := "name") sc_NoGuard_init F rfl rfl rfl rfl rfl hno (fun _ _ _ _ _ _ _ => ⟨(va_cons (ve_joined (.cons (ve_str) (.cons (ve_fmt (vo_nm 1)) .nil))) va_nil), (ve_nm 1)⟩)
abbrev s_Barred_init : Stmt := mth 19 0
abbrev N_Barred_init : List Str := ["self", "names"]
abbrev P_Barred_init : List Str := ["self", "names"]
theorem sc_Barred_init : SupS N_Barred_init P_Barred_init (defScope s_Barred_init) := ⟨rfl, rfl, rfl, by decide +kernel, rfl, by decide +kernel, by decide +kernel, by decide +kernel, rfl, rfl⟩
def g_Barred_init : MA := (mAc (mJoin [(mO1 oFmt (.ex (mFrz (mO1 oLen (.nm 1))))), (mC (.str " guards would be false"))]) mA0)
def e_Barred_init : ME := (mO1 oListOf (.nm 1))
abbrev ok_Barred : List D → (List (Str × D) → Prop) → Prop := okX N_Barred_init g_Barred_init "names" e_Barred_init
theorem oe_Barred {P : Program} {w : World} {K : PySem.W.Frag} {mg : Str → Option Value} {base : Heap} {C fI : Addr} {fd : FuncData} (b_len : mg "len" = none) (b_list : mg "list" = none) (F : SupF P K mg "Barred.__init__" (defArgs s_Barred_init) (defBody s_Barred_init) (defScope s_Barred_init) C fI fd) (hno : PySem.W.findIn K (.ref C) "names" = some none) : FnOk P w K mg base (L2.CX P w) 1 fI fd P_Barred_init (spX K 1 C ok_Barred) :=
  fn_sup (k := 0) (n := 1) (g := g_Barred_init) (me := e_Barred_init) (fld := "names") sc_Barred_init F rfl rfl rfl rfl rfl hno (fun _ _ _ _ _ _ _ => ⟨(va_cons (ve_joined (.cons (ve_fmt (.fz (ve_b1 cv_len rfl b_len bt_len (vo_nm 1)))) (.cons (ve_str) .nil))) va_nil), (ve_ty1 cv_list rfl b_list bt_list (vo_nm 1))⟩)
abbrev s_NothingToUndo_init : Stmt := mth 20 0
abbrev N_NothingToUndo_init : List Str := ["self"]
abbrev P_NothingToUndo_init : List Str := ["self"]
theorem sc_NothingToUndo_init : SupS N_NothingToUndo_init P_NothingToUndo_init (defScope s_NothingToUndo_init) := ⟨rfl, rfl, rfl, by decide +kernel, rfl, by decide +kernel, by decide +kernel, by decide +kernel, rfl, rfl⟩
theorem oe_NothingToUndo {P : Program} {w : World} {K : PySem.W.Frag} {mg : Str → Option Value} {base : Heap} {C fI : Addr} {fd : FuncData} (F : SupF P K mg "NothingToUndo.__init__" (defArgs s_NothingToUndo_init) (defBody s_NothingToUndo_init) (defScope s_NothingToUndo_init) C fI fd) : FnOk P w K mg base (L2.CX P w) 1 fI fd P_NothingToUndo_init (spX0 C) :=
  fn_sup0 (k := 0) (g := (mAc (mC (.str "no change is left")) mA0)) sc_NothingToUndo_init F rfl rfl rfl rfl (fun _ _ _ _ _ _ _ => (va_cons (ve_str) va_nil)) trivial
/-! ### what each def promises -/
abbrev dInts (l : List Int) : D := .lst (l.map D.int)
abbrev dStrs (l : List Str) : D := .lst (l.map D.str)
def penT (cells : List Int) (turn left : Int) : T := .bd [(.inr "cells", dInts cells), (.inr "turn", .int turn), (.inr "left", .int left)]
/-- the pen behind at most n draws -/
def penOk (n : Nat) (t : T) : Prop := ∃ cells turn left, t = penT cells turn left ∧ 0 ≤ turn ∧ turn ≤ (n : Int) ∧ cells.length ≤ 63
def most : Nat := 2 ^ 40
def sp__law_begun_pen (_ : PySem.W.Frag) : VSp := fun ts R _ => ∃ ns, ts = [.frz (.scr ns)] ∧ ∀ pen, penOk 0 pen → R pen [none]
def sp__law_draw (_ : PySem.W.Frag) : VSp := fun ts R _ => ∃ n span pen, ts = [pen, .frz (.int span)] ∧ penOk n pen ∧ n < most ∧ 0 < span ∧ span < 2 ^ 250 ∧ ∀ r pen', 0 ≤ r → r < span → penOk (n + 1) pen' → R (.frz (.int r)) [some pen', none]
def sp__law_shuffled (_ : PySem.W.Frag) : VSp := fun ts R _ => ∃ n ds pen, ts = [pen, .frz (.lst ds)] ∧ penOk n pen ∧ n + ds.length < most ∧ ds.length < 2 ^ 20 ∧ (∀ es : List D, (∀ e ∈ es, e ∈ ds) → Eqb (.lst es)) ∧ ∀ (es : List D) pen', es.Perm ds → penOk (n + ds.length) pen' → R (.bl es) [some pen', none]
def names11 : List Str := ["p", "q", "x", "y", "zz", "date", "rows", "abcdefghijkl", "marks", "out", "nextone"]
def sp__law_new_names (_ : PySem.W.Frag) : VSp := fun ts R _ => ∃ (n : Nat) (many : Int) (pen : T), ts = [pen, .frz (.int many)] ∧ penOk n pen ∧ n + 11 < most ∧ 0 ≤ many ∧ ∀ (es : List Str) pen', es.Perm names11 → penOk (n + 11) pen' → R (.bl ((es.take many.toNat).map D.str)) [some pen', none]
def exN : List Str := ["BadInputs", "BadName", "BadSaying", "BadScene", "BadScript", "BadWalk", "BadWorld", "Barred", "NoButton", "NoGuard", "NoLots", "NoMark", "NoRow", "NoThing", "NotBare", "NothingToUndo", "OtherScene", "Taken", "Unlike"]
abbrev exT (K : PySem.W.Frag) (x : Str) (fs : List (Str × D)) : T := .frz (.exv (He.ga K x) fs)
def sp__law_classes (K : PySem.W.Frag) : VSp := fun ts R _ => ∃ x fs, ts = [exT K x fs] ∧ x ∈ exN ∧ R (.frz (.int 1)) [none]
def sp__law_is_one (K : PySem.W.Frag) : VSp := fun ts R _ => ∃ x fs b, ts = [exT K x fs, .frz (.bl b)] ∧ x ∈ exN ∧ R (.frz (.bl b)) [none, none]
/-- an exception of the package, what its field says, that it is of its class -/
def isTold (K : PySem.W.Frag) (v d : D) : Prop := ∃ x fs, x ∈ exN ∧ d = .tup [.exv (He.ga K x) fs, v, .bl true]
def sp__law_numbered (K : PySem.W.Frag) : VSp := fun ts R _ => ∃ i : Int, ts = [.frz (.int i)] ∧ -9 < i ∧ i < 2 ^ 210 ∧ ∀ ds : List D, (∀ d ∈ ds, isTold K (.int i) d) → R (.bl ds) [none]
def sp__law_named (K : PySem.W.Frag) : VSp := fun ts R _ => ∃ t : Str, ts = [.frz (.str t)] ∧ t.length ≤ 12 ∧ ∀ ds : List D, (∀ d ∈ ds, isTold K (.str t) d) → R (.bl ds) [none]
def sp__law_others_right (_ : PySem.W.Frag) : VSp := fun ts R _ => ∃ (n : Nat) (pen : T), ts = [pen] ∧ penOk n pen ∧ n + 20 < most ∧ ∀ pen', penOk (n + 12) pen' → R (.frz (.bl true)) [some pen']
def sp_law (_ : PySem.W.Frag) : VSp := fun ts R _ => ∃ ns, ts = [.frz (.scr ns)] ∧ ∀ Γ, R (.frz (.bl true)) Γ

structure Fx (K : PySem.W.Frag) (mg : Str → Option Value) : Prop where
  x_BadScene : XcC K (He.ga K "BadScene") (He.fAd K ("BadScene", some "__init__"))
  x_BadWorld : XcC K (He.ga K "BadWorld") (He.fAd K ("BadWorld", some "__init__"))
  x_BadScript : XcC K (He.ga K "BadScript") (He.fAd K ("BadScript", some "__init__"))
  x_BadSaying : XcC K (He.ga K "BadSaying") (He.fAd K ("BadSaying", some "__init__"))
  x_BadWalk : XcC K (He.ga K "BadWalk") (He.fAd K ("BadWalk", some "__init__"))
  x_NoThing : XcC K (He.ga K "NoThing") (He.fAd K ("NoThing", some "__init__"))
  x_NoRow : XcC K (He.ga K "NoRow") (He.fAd K ("NoRow", some "__init__"))
  x_NoMark : XcC K (He.ga K "NoMark") (He.fAd K ("NoMark", some "__init__"))
  x_NoLots : XcC K (He.ga K "NoLots") (He.fAd K ("NoLots", some "__init__"))
  x_BadInputs : XcC K (He.ga K "BadInputs") (He.fAd K ("BadInputs", some "__init__"))
  x_OtherScene : XcC K (He.ga K "OtherScene") (He.fAd K ("OtherScene", some "__init__"))
  x_Unlike : XcC K (He.ga K "Unlike") (He.fAd K ("Unlike", some "__init__"))
  x_NotBare : XcC K (He.ga K "NotBare") (He.fAd K ("NotBare", some "__init__"))
  x_BadName : XcC K (He.ga K "BadName") (He.fAd K ("BadName", some "__init__"))
  x_NoButton : XcC K (He.ga K "NoButton") (He.fAd K ("NoButton", some "__init__"))
  x_Taken : XcC K (He.ga K "Taken") (He.fAd K ("Taken", some "__init__"))
  x_NoGuard : XcC K (He.ga K "NoGuard") (He.fAd K ("NoGuard", some "__init__"))
  x_Barred : XcC K (He.ga K "Barred") (He.fAd K ("Barred", some "__init__"))
  x_NothingToUndo : XcC K (He.ga K "NothingToUndo") (He.fAd K ("NothingToUndo", some "__init__"))
  g__law_begun_pen : mg "_law_begun_pen" = some (.ref (He.fAd K ("_law_begun_pen", none)))
  k__law_begun_pen : PySem.W.keepIn K (.ref (He.fAd K ("_law_begun_pen", none))) = true
  g__law_draw : mg "_law_draw" = some (.ref (He.fAd K ("_law_draw", none)))
  k__law_draw : PySem.W.keepIn K (.ref (He.fAd K ("_law_draw", none))) = true
  g__law_shuffled : mg "_law_shuffled" = some (.ref (He.fAd K ("_law_shuffled", none)))
  k__law_shuffled : PySem.W.keepIn K (.ref (He.fAd K ("_law_shuffled", none))) = true
  g__law_new_names : mg "_law_new_names" = some (.ref (He.fAd K ("_law_new_names", none)))
  k__law_new_names : PySem.W.keepIn K (.ref (He.fAd K ("_law_new_names", none))) = true
  g__law_classes : mg "_law_classes" = some (.ref (He.fAd K ("_law_classes", none)))
  k__law_classes : PySem.W.keepIn K (.ref (He.fAd K ("_law_classes", none))) = true
  g__law_is_one : mg "_law_is_one" = some (.ref (He.fAd K ("_law_is_one", none)))
  k__law_is_one : PySem.W.keepIn K (.ref (He.fAd K ("_law_is_one", none))) = true
  g__law_numbered : mg "_law_numbered" = some (.ref (He.fAd K ("_law_numbered", none)))
  k__law_numbered : PySem.W.keepIn K (.ref (He.fAd K ("_law_numbered", none))) = true
  g__law_named : mg "_law_named" = some (.ref (He.fAd K ("_law_named", none)))
  k__law_named : PySem.W.keepIn K (.ref (He.fAd K ("_law_named", none))) = true
  g__law_others_right : mg "_law_others_right" = some (.ref (He.fAd K ("_law_others_right", none)))
  k__law_others_right : PySem.W.keepIn K (.ref (He.fAd K ("_law_others_right", none))) = true
  g_law : mg "law" = some (.ref (He.fAd K ("law", none)))
  k_law : PySem.W.keepIn K (.ref (He.fAd K ("law", none))) = true
  g_SeatError : mg "SeatError" = some (.ref (He.ga K "SeatError"))
  g_BadScene : mg "BadScene" = some (.ref (He.ga K "BadScene"))
  g_BadWorld : mg "BadWorld" = some (.ref (He.ga K "BadWorld"))
  g_BadScript : mg "BadScript" = some (.ref (He.ga K "BadScript"))
  g_BadSaying : mg "BadSaying" = some (.ref (He.ga K "BadSaying"))
  g_BadWalk : mg "BadWalk" = some (.ref (He.ga K "BadWalk"))
  g_NoThing : mg "NoThing" = some (.ref (He.ga K "NoThing"))
  g_NoRow : mg "NoRow" = some (.ref (He.ga K "NoRow"))
  g_NoMark : mg "NoMark" = some (.ref (He.ga K "NoMark"))
  g_NoLots : mg "NoLots" = some (.ref (He.ga K "NoLots"))
  g_BadInputs : mg "BadInputs" = some (.ref (He.ga K "BadInputs"))
  g_OtherScene : mg "OtherScene" = some (.ref (He.ga K "OtherScene"))
  g_Unlike : mg "Unlike" = some (.ref (He.ga K "Unlike"))
  g_NotBare : mg "NotBare" = some (.ref (He.ga K "NotBare"))
  g_BadName : mg "BadName" = some (.ref (He.ga K "BadName"))
  g_NoButton : mg "NoButton" = some (.ref (He.ga K "NoButton"))
  g_Taken : mg "Taken" = some (.ref (He.ga K "Taken"))
  g_NoGuard : mg "NoGuard" = some (.ref (He.ga K "NoGuard"))
  g_Barred : mg "Barred" = some (.ref (He.ga K "Barred"))
  g_NothingToUndo : mg "NothingToUndo" = some (.ref (He.ga K "NothingToUndo"))
  b_ValueError : mg "ValueError" = none
  b_abs : mg "abs" = none
  b_int : mg "int" = none
  b_isinstance : mg "isinstance" = none
  b_len : mg "len" = none
  b_list : mg "list" = none
  b_range : mg "range" = none
  b_repr : mg "repr" = none
section
variable {P : Program} {w : World} {K : PySem.W.Frag} {mg : Str → Option Value} {base : Heap}
abbrev s__law_begun_pen : Stmt := top 22
abbrev N__law_begun_pen : List Str := ["script"]
abbrev P__law_begun_pen : List Str := ["script"]
theorem sc__law_begun_pen : FnScope N__law_begun_pen P__law_begun_pen (defScope s__law_begun_pen) := ⟨rfl, rfl, rfl, by decide +kernel, rfl, by decide +kernel, by decide +kernel⟩
def m__law_begun_pen (K : PySem.W.Frag) : MS := (sRet (mDct ((.inr "cells", (mO1 oListOf (.ex (mFrz (mSlc oSl (.nm 0) mNo (mSo (mC (.int 63)))))))) :: ((.inr "turn", (mC (.int 0))) :: ((.inr "left", (mC (.int 0))) :: [])))))
theorem v__law_begun_pen (fx : Fx K mg) {f : Addr} {cdv : Value} {A : Around} {outer : List Env} {s : Shared} {H : Hp} {E : XK} (hr : RoomG 0 (BX P w K mg base N__law_begun_pen "_law_begun_pen" s__law_begun_pen f cdv A outer s H E).A) (tk : Takes (BX P w K mg base N__law_begun_pen "_law_begun_pen" s__law_begun_pen f cdv A outer s H E) (BW E)) (hpo : PassesOwn (model P w) (BX P w K mg base N__law_begun_pen "_law_begun_pen" s__law_begun_pen f cdv A outer s H E).A (BX P w K mg base N__law_begun_pen "_law_begun_pen" s__law_begun_pen f cdv A outer s H E).env (BX P w K mg base N__law_begun_pen "_law_begun_pen" s__law_begun_pen f cdv A outer s H E).xe) :
    VSs (BX P w K mg base N__law_begun_pen "_law_begun_pen" s__law_begun_pen f cdv A outer s H E) (BW E) 0 (defBody s__law_begun_pen) (m__law_begun_pen K) :=
  (vss_one (vs_ret (ve_dct (.cons (k := .inr "cells") pe_str (ve_ty1 cv_list rfl fx.b_list bt_list (.fz (ve_slice slv (vo_nm 0) vp_none (vp_some ve_int)))) (.cons (k := .inr "turn") pe_str ve_int (.cons (k := .inr "left") pe_str ve_int .nil))))))
abbrev s__law_draw : Stmt := top 23
abbrev N__law_draw : List Str := ["pen", "span", "digit", "turn", "cell", "mixed"]
abbrev P__law_draw : List Str := ["pen", "span"]
theorem sc__law_draw : FnScope N__law_draw P__law_draw (defScope s__law_draw) := ⟨rfl, rfl, rfl, by decide +kernel, rfl, by decide +kernel, by decide +kernel⟩
def m__law_draw (K : PySem.W.Frag) : MS := (sSeq (sIf (mTst (mO2 oGt (.ex (mFrz (mO2 oIx (.nm 0) (.ex (mC (.str "left")))))) (.ex (mC (.int 0))))) (sSeq (sSet 2 (mO2 oMod (.ex (mFrz (mO1 oInt1 (.ex (mFrz (mO2 oIx (.nm 0) (.ex (mC (.str "left"))))))))) (.nm 1)))
    (sSeq (sAsg (mO2 oFdiv (.ex (mFrz (mO2 oIx (.nm 0) (.ex (mC (.str "left")))))) (.nm 1)) (tSub 0 oPut (mC (.str "left"))))
    (sRet (mMv 2)))) sNil)
    (sSeq (sSet 3 (mO2 oIx (.nm 0) (.ex (mC (.str "turn")))))
    (sSeq (sAsg (mO2 oAdd (.nm 3) (.ex (mC (.int 1)))) (tSub 0 oPut (mC (.str "turn"))))
    (sSeq (sSet 4 (mO2 oAdd (.ex (mFrz (mO2 oMulA (.ex (mC (.int 61))) (.nm 3)))) (.ex (mC (.int 13)))))
    (sSeq (sIf (mTst (mO2 oNe (.ex (mFrz (mO2 oIx (.nm 0) (.ex (mC (.str "cells")))))) (.ex (mFrz (mLst mA0))))) (sSet 4 (mO2 oIx (.ex (mFrz (mO2 oIx (.nm 0) (.ex (mC (.str "cells")))))) (.ex (mFrz (mO2 oMod (.ex (mFrz (mO1 oInt1 (.nm 3)))) (.ex (mFrz (mO1 oLen (.ex (mFrz (mO2 oIx (.nm 0) (.ex (mC (.str "cells")))))))))))))) sNil)
    (sSeq (sIf (mAnd (mTst (mO2 oLt (.nm 3) (.ex (mFrz (mO1 oLen (.ex (mFrz (mO2 oIx (.nm 0) (.ex (mC (.str "cells"))))))))))) (mTst (mO2 oGe (.ex (mFrz (mO1 oAbs (.nm 4)))) (.ex (mFrz (mO2 oPow (.ex (mC (.int 10))) (.ex (mC (.int 18))))))))) (sSeq (sAsg (mO2 oFdiv (.ex (mFrz (mO2 oSub (.ex (mFrz (mO1 oAbs (.nm 4)))) (.ex (mFrz (mO2 oPow (.ex (mC (.int 10))) (.ex (mC (.int 18))))))))) (.nm 1)) (tSub 0 oPut (mC (.str "left"))))
    (sRet (mO2 oMod (.ex (mFrz (mO1 oInt1 (.ex (mFrz (mO2 oSub (.ex (mFrz (mO1 oAbs (.nm 4)))) (.ex (mFrz (mO2 oPow (.ex (mC (.int 10))) (.ex (mC (.int 18)))))))))))) (.nm 1)))) sNil)
    (sSeq (sSet 5 (mO2 oMulA (.ex (mFrz (mO2 oMod (.ex (mFrz (mO1 oInt1 (.nm 4)))) (.ex (mC (.int 4294967087)))))) (.ex (mC (.int 48611)))))
    (sSeq (sSet 5 (mO2 oMod (.ex (mFrz (mO1 oInt1 (.ex (mFrz (mO2 oAdd (.ex (mFrz (mO2 oAdd (.nm 5) (.ex (mFrz (mO2 oMulA (.nm 3) (.ex (mFrz (mO2 oAdd (.ex (mFrz (mO2 oMulA (.nm 3) (.ex (mC (.int 27919)))))) (.ex (mC (.int 10601)))))))))))) (.ex (mC (.int 41))))))))) (.ex (mC (.int 4294967029)))))
    (sSeq (sSet 5 (mO2 oMod (.ex (mFrz (mO1 oInt1 (.ex (mFrz (mO2 oMulA (.nm 5) (.ex (mFrz (mO2 oAdd (.nm 5) (.ex (mC (.int 75013)))))))))))) (.ex (mC (.int 4294966997)))))
    (sSeq (sSet 5 (mO2 oMod (.ex (mFrz (mO1 oInt1 (.ex (mFrz (mO2 oAdd (.ex (mFrz (mO2 oAdd (.ex (mFrz (mO2 oMulA (.nm 5) (.nm 5)))) (.ex (mFrz (mO2 oMulA (.ex (mC (.int 30427))) (.nm 5))))))) (.ex (mFrz (mO2 oMulA (.ex (mC (.int 19))) (.nm 3)))))))))) (.ex (mC (.int 4294966981)))))
    (sRet (mO2 oMod (.ex (mFrz (mO1 oInt1 (.ex (mFrz (mO2 oFdiv (.ex (mFrz (mO2 oMod (.ex (mFrz (mO1 oInt1 (.ex (mFrz (mO2 oMulA (.nm 5) (.ex (mFrz (mO2 oAdd (.nm 5) (.ex (mC (.int 58111)))))))))))) (.ex (mC (.int 4294966943)))))) (.ex (mC (.int 64))))))))) (.nm 1)))))))))))))
theorem v__law_draw (fx : Fx K mg) {f : Addr} {cdv : Value} {A : Around} {outer : List Env} {s : Shared} {H : Hp} {E : XK} (hr : RoomG 0 (BX P w K mg base N__law_draw "_law_draw" s__law_draw f cdv A outer s H E).A) (tk : Takes (BX P w K mg base N__law_draw "_law_draw" s__law_draw f cdv A outer s H E) (BW E)) (hpo : PassesOwn (model P w) (BX P w K mg base N__law_draw "_law_draw" s__law_draw f cdv A outer s H E).A (BX P w K mg base N__law_draw "_law_draw" s__law_draw f cdv A outer s H E).env (BX P w K mg base N__law_draw "_law_draw" s__law_draw f cdv A outer s H E).xe) :
    VSs (BX P w K mg base N__law_draw "_law_draw" s__law_draw f cdv A outer s H E) (BW E) 1 (defBody s__law_draw) (m__law_draw K) :=
  (vss_cons (vs_if (vt_cmp ov_gt (.fz (ve_ix (ixv hr.u1) (vo_nm 0) (.ex (ve_str)))) (.ex ve_int)) (vss_cons (vs_set (i := 2) sc__law_draw.nd (ve_op ov_mod (.fz (ve_ty1 cv_int rfl fx.b_int bt_int (.fz (ve_ix (ixv hr.u1) (vo_nm 0) (.ex (ve_str)))))) (vo_nm 1)))
      (vss_cons (vs_asg (ve_op ov_fdiv (.fz (ve_ix (ixv hr.u1) (vo_nm 0) (.ex (ve_str)))) (vo_nm 1)) (vtg_sub (i := 0) (sv hr.u1) (ve_str)))
      (vss_one (vs_ret (ve_mv 2))))) vss_nil)
      (vss_cons (vs_set (i := 3) sc__law_draw.nd (ve_ix (ixv hr.u1) (vo_nm 0) (.ex (ve_str))))
      (vss_cons (vs_asg (ve_op ov_add (vo_nm 3) (.ex ve_int)) (vtg_sub (i := 0) (sv hr.u1) (ve_str)))
      (vss_cons (vs_set (i := 4) sc__law_draw.nd (ve_op ov_add (.fz (ve_op ov_mulA (.ex ve_int) (vo_nm 3))) (.ex ve_int)))
      (vss_cons (vs_if (vt_cmp (ov_ne hr.u64) (.fz (ve_ix (ixv hr.u1) (vo_nm 0) (.ex (ve_str)))) (.fz (ve_lst va_nil))) (vss_one (vs_set (i := 4) sc__law_draw.nd (ve_ix (ixv hr.u1) (.fz (ve_ix (ixv hr.u1) (vo_nm 0) (.ex (ve_str)))) (.fz (ve_op ov_mod (.fz (ve_ty1 cv_int rfl fx.b_int bt_int (vo_nm 3))) (.fz (ve_b1 cv_len rfl fx.b_len bt_len (.fz (ve_ix (ixv hr.u1) (vo_nm 0) (.ex (ve_str))))))))))) vss_nil)
      (vss_cons (vs_if (VW.vt (vw_and (vt_cmp ov_lt (vo_nm 3) (.fz (ve_b1 cv_len rfl fx.b_len bt_len (.fz (ve_ix (ixv hr.u1) (vo_nm 0) (.ex (ve_str))))))) (vw_and1 (vt_cmp ov_ge (.fz (ve_b1 cv_abs rfl fx.b_abs bt_abs (vo_nm 4))) (.fz (ve_op ov_pow (.ex ve_int) (.ex ve_int))))))) (vss_cons (vs_asg (ve_op ov_fdiv (.fz (ve_op ov_sub (.fz (ve_b1 cv_abs rfl fx.b_abs bt_abs (vo_nm 4))) (.fz (ve_op ov_pow (.ex ve_int) (.ex ve_int))))) (vo_nm 1)) (vtg_sub (i := 0) (sv hr.u1) (ve_str)))
      (vss_one (vs_ret (ve_op ov_mod (.fz (ve_ty1 cv_int rfl fx.b_int bt_int (.fz (ve_op ov_sub (.fz (ve_b1 cv_abs rfl fx.b_abs bt_abs (vo_nm 4))) (.fz (ve_op ov_pow (.ex ve_int) (.ex ve_int))))))) (vo_nm 1))))) vss_nil)
      (vss_cons (vs_set (i := 5) sc__law_draw.nd (ve_op ov_mulA (.fz (ve_op ov_mod (.fz (ve_ty1 cv_int rfl fx.b_int bt_int (vo_nm 4))) (.ex ve_int))) (.ex ve_int)))
      (vss_cons (vs_set (i := 5) sc__law_draw.nd (ve_op ov_mod (.fz (ve_ty1 cv_int rfl fx.b_int bt_int (.fz (ve_op ov_add (.fz (ve_op ov_add (vo_nm 5) (.fz (ve_op ov_mulA (vo_nm 3) (.fz (ve_op ov_add (.fz (ve_op ov_mulA (vo_nm 3) (.ex ve_int))) (.ex ve_int))))))) (.ex ve_int))))) (.ex ve_int)))
      (vss_cons (vs_set (i := 5) sc__law_draw.nd (ve_op ov_mod (.fz (ve_ty1 cv_int rfl fx.b_int bt_int (.fz (ve_op ov_mulA (vo_nm 5) (.fz (ve_op ov_add (vo_nm 5) (.ex ve_int))))))) (.ex ve_int)))
      (vss_cons (vs_set (i := 5) sc__law_draw.nd (ve_op ov_mod (.fz (ve_ty1 cv_int rfl fx.b_int bt_int (.fz (ve_op ov_add (.fz (ve_op ov_add (.fz (ve_op ov_mulA (vo_nm 5) (vo_nm 5))) (.fz (ve_op ov_mulA (.ex ve_int) (vo_nm 5))))) (.fz (ve_op ov_mulA (.ex ve_int) (vo_nm 3))))))) (.ex ve_int)))
      (vss_one (vs_ret (ve_op ov_mod (.fz (ve_ty1 cv_int rfl fx.b_int bt_int (.fz (ve_op ov_fdiv (.fz (ve_op ov_mod (.fz (ve_ty1 cv_int rfl fx.b_int bt_int (.fz (ve_op ov_mulA (vo_nm 5) (.fz (ve_op ov_add (vo_nm 5) (.ex ve_int))))))) (.ex ve_int))) (.ex ve_int))))) (vo_nm 1))))))))))))))
abbrev s__law_shuffled : Stmt := top 24
abbrev N__law_shuffled : List Str := ["pen", "items", "left", "found"]
abbrev P__law_shuffled : List Str := ["pen", "items"]
theorem sc__law_shuffled : FnScope N__law_shuffled P__law_shuffled (defScope s__law_shuffled) := ⟨rfl, rfl, rfl, by decide +kernel, rfl, by decide +kernel, by decide +kernel⟩
def m__law_shuffled (K : PySem.W.Frag) : MS := (sSeq (sPar 2 3 (mAc (mO1 oListOf (.nm 1)) (mAc (mLst mA0) mA0)))
    (sSeq (sWhile (mTst (mO2 oNe (.nm 2) (.ex (mFrz (mLst mA0))))) (sExp (mMut 3 T.isBl oAppend (mAc (mMut 2 T.isBl oPopAt (mAc (mCall (sp__law_draw K) (gN 0 (gE (mO1 oLen (.nm 2)) g0))) mA0)) mA0))))
    (sRet (mMv 3))))
theorem v__law_shuffled (fx : Fx K mg) (o__law_draw : OkF P w K mg base 1 (He.fAd K ("_law_draw", none)) P__law_draw (sp__law_draw K)) {f : Addr} {cdv : Value} {A : Around} {outer : List Env} {s : Shared} {H : Hp} {E : XK} (hr : RoomG 1 (BX P w K mg base N__law_shuffled "_law_shuffled" s__law_shuffled f cdv A outer s H E).A) (tk : Takes (BX P w K mg base N__law_shuffled "_law_shuffled" s__law_shuffled f cdv A outer s H E) (BW E)) (hpo : PassesOwn (model P w) (BX P w K mg base N__law_shuffled "_law_shuffled" s__law_shuffled f cdv A outer s H E).A (BX P w K mg base N__law_shuffled "_law_shuffled" s__law_shuffled f cdv A outer s H E).env (BX P w K mg base N__law_shuffled "_law_shuffled" s__law_shuffled f cdv A outer s H E).xe) :
    VSs (BX P w K mg base N__law_shuffled "_law_shuffled" s__law_shuffled f cdv A outer s H E) (BW E) 1 (defBody s__law_shuffled) (m__law_shuffled K) :=
  (vss_cons (vs_par (i := 2) (j := 3) rfl sc__law_shuffled.nd (va_cons (ve_ty1 cv_list rfl fx.b_list bt_list (vo_nm 1)) (va_cons (ve_lst va_nil) va_nil)))
      (vss_cons (vs_while hpo (vt_cmp (ov_ne hr.u64) (vo_nm 2) (.fz (ve_lst va_nil))) (vss_one (vs_expr (ve_mut1 F.plainAttrs_list F.slot_list_append F.type_list_append mv_append (va_cons (ve_mut1 F.plainAttrs_list F.slot_list_pop F.type_list_pop mv_popAt (va_cons (ve_callO o__law_draw hr tk fx.g__law_draw fx.k__law_draw (vg_n 0 (vg_e (ve_b1 cv_len rfl fx.b_len bt_len (vo_nm 2)) vg_nil))) va_nil)) va_nil)))))
      (vss_one (vs_ret (ve_mv 3)))))
abbrev s__law_new_names : Stmt := top 25
abbrev N__law_new_names : List Str := ["pen", "many", "names"]
abbrev P__law_new_names : List Str := ["pen", "many"]
theorem sc__law_new_names : FnScope N__law_new_names P__law_new_names (defScope s__law_new_names) := ⟨rfl, rfl, rfl, by decide +kernel, rfl, by decide +kernel, by decide +kernel⟩
def m__law_new_names (K : PySem.W.Frag) : MS := (sSeq (sSet 2 (mLst (mAc (mC (.str "p")) (mAc (mC (.str "q")) (mAc (mC (.str "x")) (mAc (mC (.str "y")) (mAc (mC (.str "zz")) (mAc (mC (.str "date")) (mAc (mC (.str "rows")) (mAc (mC (.str "abcdefghijkl")) (mAc (mC (.str "marks")) (mAc (mC (.str "out")) (mAc (mC (.str "nextone")) mA0)))))))))))))
    (sRet (mSlc oSl (.ex (mFrz (mCall (sp__law_shuffled K) (gN 0 (gE (mNm 2) g0))))) mNo (mSo (mNm 1)))))
theorem v__law_new_names (fx : Fx K mg) (o__law_shuffled : OkF P w K mg base 2 (He.fAd K ("_law_shuffled", none)) P__law_shuffled (sp__law_shuffled K)) {f : Addr} {cdv : Value} {A : Around} {outer : List Env} {s : Shared} {H : Hp} {E : XK} (hr : RoomG 2 (BX P w K mg base N__law_new_names "_law_new_names" s__law_new_names f cdv A outer s H E).A) (tk : Takes (BX P w K mg base N__law_new_names "_law_new_names" s__law_new_names f cdv A outer s H E) (BW E)) (hpo : PassesOwn (model P w) (BX P w K mg base N__law_new_names "_law_new_names" s__law_new_names f cdv A outer s H E).A (BX P w K mg base N__law_new_names "_law_new_names" s__law_new_names f cdv A outer s H E).env (BX P w K mg base N__law_new_names "_law_new_names" s__law_new_names f cdv A outer s H E).xe) :
    VSs (BX P w K mg base N__law_new_names "_law_new_names" s__law_new_names f cdv A outer s H E) (BW E) 1 (defBody s__law_new_names) (m__law_new_names K) :=
  (vss_cons (vs_set (i := 2) sc__law_new_names.nd (ve_lst (va_cons (ve_str) (va_cons (ve_str) (va_cons (ve_str) (va_cons (ve_str) (va_cons (ve_str) (va_cons (ve_str) (va_cons (ve_str) (va_cons (ve_str) (va_cons (ve_str) (va_cons (ve_str) (va_cons (ve_str) va_nil)))))))))))))
      (vss_one (vs_ret (ve_slice slv (.fz (ve_callO o__law_shuffled hr tk fx.g__law_shuffled fx.k__law_shuffled (vg_n 0 (vg_e (ve_nm 2) vg_nil)))) vp_none (vp_some (ve_nm 1))))))
abbrev s__law_classes : Stmt := top 26
abbrev N__law_classes : List Str := ["e", "one"]
abbrev P__law_classes : List Str := ["e"]
theorem sc__law_classes : FnScope N__law_classes P__law_classes (defScope s__law_classes) := ⟨rfl, rfl, rfl, by decide +kernel, rfl, by decide +kernel, by decide +kernel⟩
def m__law_classes (K : PySem.W.Frag) : MS := (sSeq (sSet 1 (mO2 oAdd (.ex (mFrz (mO2 oAdd (.ex (mFrz (mO1 oInt1 (.ex (mFrz (mO2 (oIsx K) (.nm 0) (.ex (mFrz (mC (.ref (He.ga K "BadInputs"))))))))))) (.ex (mFrz (mO1 oInt1 (.ex (mFrz (mO2 (oIsx K) (.nm 0) (.ex (mFrz (mC (.ref (He.ga K "BadName")))))))))))))) (.ex (mFrz (mO1 oInt1 (.ex (mFrz (mO2 (oIsx K) (.nm 0) (.ex (mFrz (mC (.ref (He.ga K "BadSaying")))))))))))))
    (sSeq (sSet 1 (mO2 oAdd (.ex (mFrz (mO2 oAdd (.ex (mFrz (mO2 oAdd (.nm 1) (.ex (mFrz (mO1 oInt1 (.ex (mFrz (mO2 (oIsx K) (.nm 0) (.ex (mFrz (mC (.ref (He.ga K "BadScene")))))))))))))) (.ex (mFrz (mO1 oInt1 (.ex (mFrz (mO2 (oIsx K) (.nm 0) (.ex (mFrz (mC (.ref (He.ga K "BadScript")))))))))))))) (.ex (mFrz (mO1 oInt1 (.ex (mFrz (mO2 (oIsx K) (.nm 0) (.ex (mFrz (mC (.ref (He.ga K "BadWalk")))))))))))))
    (sSeq (sSet 1 (mO2 oAdd (.ex (mFrz (mO2 oAdd (.ex (mFrz (mO2 oAdd (.nm 1) (.ex (mFrz (mO1 oInt1 (.ex (mFrz (mO2 (oIsx K) (.nm 0) (.ex (mFrz (mC (.ref (He.ga K "BadWorld")))))))))))))) (.ex (mFrz (mO1 oInt1 (.ex (mFrz (mO2 (oIsx K) (.nm 0) (.ex (mFrz (mC (.ref (He.ga K "Barred")))))))))))))) (.ex (mFrz (mO1 oInt1 (.ex (mFrz (mO2 (oIsx K) (.nm 0) (.ex (mFrz (mC (.ref (He.ga K "NoButton")))))))))))))
    (sSeq (sSet 1 (mO2 oAdd (.ex (mFrz (mO2 oAdd (.ex (mFrz (mO2 oAdd (.nm 1) (.ex (mFrz (mO1 oInt1 (.ex (mFrz (mO2 (oIsx K) (.nm 0) (.ex (mFrz (mC (.ref (He.ga K "NoGuard")))))))))))))) (.ex (mFrz (mO1 oInt1 (.ex (mFrz (mO2 (oIsx K) (.nm 0) (.ex (mFrz (mC (.ref (He.ga K "NoLots")))))))))))))) (.ex (mFrz (mO1 oInt1 (.ex (mFrz (mO2 (oIsx K) (.nm 0) (.ex (mFrz (mC (.ref (He.ga K "NoMark")))))))))))))
    (sSeq (sSet 1 (mO2 oAdd (.ex (mFrz (mO2 oAdd (.ex (mFrz (mO2 oAdd (.nm 1) (.ex (mFrz (mO1 oInt1 (.ex (mFrz (mO2 (oIsx K) (.nm 0) (.ex (mFrz (mC (.ref (He.ga K "NoRow")))))))))))))) (.ex (mFrz (mO1 oInt1 (.ex (mFrz (mO2 (oIsx K) (.nm 0) (.ex (mFrz (mC (.ref (He.ga K "NoThing")))))))))))))) (.ex (mFrz (mO1 oInt1 (.ex (mFrz (mO2 (oIsx K) (.nm 0) (.ex (mFrz (mC (.ref (He.ga K "NotBare")))))))))))))
    (sSeq (sSet 1 (mO2 oAdd (.ex (mFrz (mO2 oAdd (.ex (mFrz (mO2 oAdd (.nm 1) (.ex (mFrz (mO1 oInt1 (.ex (mFrz (mO2 (oIsx K) (.nm 0) (.ex (mFrz (mC (.ref (He.ga K "NothingToUndo")))))))))))))) (.ex (mFrz (mO1 oInt1 (.ex (mFrz (mO2 (oIsx K) (.nm 0) (.ex (mFrz (mC (.ref (He.ga K "OtherScene")))))))))))))) (.ex (mFrz (mO1 oInt1 (.ex (mFrz (mO2 (oIsx K) (.nm 0) (.ex (mFrz (mC (.ref (He.ga K "Taken")))))))))))))
    (sRet (mO2 oAdd (.nm 1) (.ex (mFrz (mO1 oInt1 (.ex (mFrz (mO2 (oIsx K) (.nm 0) (.ex (mFrz (mC (.ref (He.ga K "Unlike")))))))))))))))))))
theorem v__law_classes (fx : Fx K mg) {f : Addr} {cdv : Value} {A : Around} {outer : List Env} {s : Shared} {H : Hp} {E : XK} (hr : RoomG 0 (BX P w K mg base N__law_classes "_law_classes" s__law_classes f cdv A outer s H E).A) (tk : Takes (BX P w K mg base N__law_classes "_law_classes" s__law_classes f cdv A outer s H E) (BW E)) (hpo : PassesOwn (model P w) (BX P w K mg base N__law_classes "_law_classes" s__law_classes f cdv A outer s H E).A (BX P w K mg base N__law_classes "_law_classes" s__law_classes f cdv A outer s H E).env (BX P w K mg base N__law_classes "_law_classes" s__law_classes f cdv A outer s H E).xe) :
    VSs (BX P w K mg base N__law_classes "_law_classes" s__law_classes f cdv A outer s H E) (BW E) 0 (defBody s__law_classes) (m__law_classes K) :=
  (vss_cons (vs_set (i := 1) sc__law_classes.nd (ve_op ov_add (.fz (ve_op ov_add (.fz (ve_ty1 cv_int rfl fx.b_int bt_int (.fz (ve_b2 cv_isx rfl fx.b_isinstance bt_isinstance (vo_nm 0) (.fz (ve_gcls fx.g_BadInputs)))))) (.fz (ve_ty1 cv_int rfl fx.b_int bt_int (.fz (ve_b2 cv_isx rfl fx.b_isinstance bt_isinstance (vo_nm 0) (.fz (ve_gcls fx.g_BadName)))))))) (.fz (ve_ty1 cv_int rfl fx.b_int bt_int (.fz (ve_b2 cv_isx rfl fx.b_isinstance bt_isinstance (vo_nm 0) (.fz (ve_gcls fx.g_BadSaying))))))))
      (vss_cons (vs_set (i := 1) sc__law_classes.nd (ve_op ov_add (.fz (ve_op ov_add (.fz (ve_op ov_add (vo_nm 1) (.fz (ve_ty1 cv_int rfl fx.b_int bt_int (.fz (ve_b2 cv_isx rfl fx.b_isinstance bt_isinstance (vo_nm 0) (.fz (ve_gcls fx.g_BadScene)))))))) (.fz (ve_ty1 cv_int rfl fx.b_int bt_int (.fz (ve_b2 cv_isx rfl fx.b_isinstance bt_isinstance (vo_nm 0) (.fz (ve_gcls fx.g_BadScript)))))))) (.fz (ve_ty1 cv_int rfl fx.b_int bt_int (.fz (ve_b2 cv_isx rfl fx.b_isinstance bt_isinstance (vo_nm 0) (.fz (ve_gcls fx.g_BadWalk))))))))
      (vss_cons (vs_set (i := 1) sc__law_classes.nd (ve_op ov_add (.fz (ve_op ov_add (.fz (ve_op ov_add (vo_nm 1) (.fz (ve_ty1 cv_int rfl fx.b_int bt_int (.fz (ve_b2 cv_isx rfl fx.b_isinstance bt_isinstance (vo_nm 0) (.fz (ve_gcls fx.g_BadWorld)))))))) (.fz (ve_ty1 cv_int rfl fx.b_int bt_int (.fz (ve_b2 cv_isx rfl fx.b_isinstance bt_isinstance (vo_nm 0) (.fz (ve_gcls fx.g_Barred)))))))) (.fz (ve_ty1 cv_int rfl fx.b_int bt_int (.fz (ve_b2 cv_isx rfl fx.b_isinstance bt_isinstance (vo_nm 0) (.fz (ve_gcls fx.g_NoButton))))))))
      (vss_cons (vs_set (i := 1) sc__law_classes.nd (ve_op ov_add (.fz (ve_op ov_add (.fz (ve_op ov_add (vo_nm 1) (.fz (ve_ty1 cv_int rfl fx.b_int bt_int (.fz (ve_b2 cv_isx rfl fx.b_isinstance bt_isinstance (vo_nm 0) (.fz (ve_gcls fx.g_NoGuard)))))))) (.fz (ve_ty1 cv_int rfl fx.b_int bt_int (.fz (ve_b2 cv_isx rfl fx.b_isinstance bt_isinstance (vo_nm 0) (.fz (ve_gcls fx.g_NoLots)))))))) (.fz (ve_ty1 cv_int rfl fx.b_int bt_int (.fz (ve_b2 cv_isx rfl fx.b_isinstance bt_isinstance (vo_nm 0) (.fz (ve_gcls fx.g_NoMark))))))))
      (vss_cons (vs_set (i := 1) sc__law_classes.nd (ve_op ov_add (.fz (ve_op ov_add (.fz (ve_op ov_add (vo_nm 1) (.fz (ve_ty1 cv_int rfl fx.b_int bt_int (.fz (ve_b2 cv_isx rfl fx.b_isinstance bt_isinstance (vo_nm 0) (.fz (ve_gcls fx.g_NoRow)))))))) (.fz (ve_ty1 cv_int rfl fx.b_int bt_int (.fz (ve_b2 cv_isx rfl fx.b_isinstance bt_isinstance (vo_nm 0) (.fz (ve_gcls fx.g_NoThing)))))))) (.fz (ve_ty1 cv_int rfl fx.b_int bt_int (.fz (ve_b2 cv_isx rfl fx.b_isinstance bt_isinstance (vo_nm 0) (.fz (ve_gcls fx.g_NotBare))))))))
      (vss_cons (vs_set (i := 1) sc__law_classes.nd (ve_op ov_add (.fz (ve_op ov_add (.fz (ve_op ov_add (vo_nm 1) (.fz (ve_ty1 cv_int rfl fx.b_int bt_int (.fz (ve_b2 cv_isx rfl fx.b_isinstance bt_isinstance (vo_nm 0) (.fz (ve_gcls fx.g_NothingToUndo)))))))) (.fz (ve_ty1 cv_int rfl fx.b_int bt_int (.fz (ve_b2 cv_isx rfl fx.b_isinstance bt_isinstance (vo_nm 0) (.fz (ve_gcls fx.g_OtherScene)))))))) (.fz (ve_ty1 cv_int rfl fx.b_int bt_int (.fz (ve_b2 cv_isx rfl fx.b_isinstance bt_isinstance (vo_nm 0) (.fz (ve_gcls fx.g_Taken))))))))
      (vss_one (vs_ret (ve_op ov_add (vo_nm 1) (.fz (ve_ty1 cv_int rfl fx.b_int bt_int (.fz (ve_b2 cv_isx rfl fx.b_isinstance bt_isinstance (vo_nm 0) (.fz (ve_gcls fx.g_Unlike)))))))))))))))
abbrev s__law_is_one : Stmt := top 27
abbrev N__law_is_one : List Str := ["e", "kind"]
abbrev P__law_is_one : List Str := ["e", "kind"]
theorem sc__law_is_one : FnScope N__law_is_one P__law_is_one (defScope s__law_is_one) := ⟨rfl, rfl, rfl, by decide +kernel, rfl, by decide +kernel, by decide +kernel⟩
def m__law_is_one (K : PySem.W.Frag) : MS := (sRet (mAndV (mNm 1) (mAndV (mO2 (oIsx K) (.nm 0) (.ex (mFrz (mC (.ref (He.ga K "SeatError")))))) (mAndV (mO2 (oIsx K) (.nm 0) (.ex (mC (.ty "ValueError")))) (mO2 oEq (.ex (mFrz (mCall (sp__law_classes K) (gE (mNm 0) g0)))) (.ex (mC (.int 1))))))))
theorem v__law_is_one (fx : Fx K mg) (o__law_classes : OkF P w K mg base 1 (He.fAd K ("_law_classes", none)) P__law_classes (sp__law_classes K)) {f : Addr} {cdv : Value} {A : Around} {outer : List Env} {s : Shared} {H : Hp} {E : XK} (hr : RoomG 1 (BX P w K mg base N__law_is_one "_law_is_one" s__law_is_one f cdv A outer s H E).A) (tk : Takes (BX P w K mg base N__law_is_one "_law_is_one" s__law_is_one f cdv A outer s H E) (BW E)) (hpo : PassesOwn (model P w) (BX P w K mg base N__law_is_one "_law_is_one" s__law_is_one f cdv A outer s H E).A (BX P w K mg base N__law_is_one "_law_is_one" s__law_is_one f cdv A outer s H E).env (BX P w K mg base N__law_is_one "_law_is_one" s__law_is_one f cdv A outer s H E).xe) :
    VSs (BX P w K mg base N__law_is_one "_law_is_one" s__law_is_one f cdv A outer s H E) (BW E) 0 (defBody s__law_is_one) (m__law_is_one K) :=
  (vss_one (vs_ret (ve_and (ve_nm 1) (ve_and (ve_b2 cv_isx rfl fx.b_isinstance bt_isinstance (vo_nm 0) (.fz (ve_gcls fx.g_SeatError))) (ve_and (ve_b2 cv_isx rfl fx.b_isinstance bt_isinstance (vo_nm 0) (.ex (ve_bty fx.b_ValueError bt_ValueError))) (ve_one (ve_cmp (ov_eq hr.u64) (.fz (ve_callO o__law_classes hr tk fx.g__law_classes fx.k__law_classes (vg_e (ve_nm 0) vg_nil))) (.ex ve_int))))))))
abbrev s__law_numbered : Stmt := top 28
abbrev N__law_numbered : List Str := ["number", "one", "two", "three", "four", "five", "six", "seven", "found"]
abbrev P__law_numbered : List Str := ["number"]
theorem sc__law_numbered : FnScope N__law_numbered P__law_numbered (defScope s__law_numbered) := ⟨rfl, rfl, rfl, by decide +kernel, rfl, by decide +kernel, by decide +kernel⟩
def m__law_numbered (K : PySem.W.Frag) : MS := (sSeq (sPar3 1 2 3 (mAc (mXv (He.ga K "BadScene") 1 ok_BadScene (mAc (mNm 0) mA0)) (mAc (mXv (He.ga K "BadWorld") 1 ok_BadWorld (mAc (mNm 0) mA0)) (mAc (mXv (He.ga K "BadScript") 1 ok_BadScript (mAc (mNm 0) mA0)) mA0))))
    (sSeq (sPar 4 5 (mAc (mXv (He.ga K "BadSaying") 1 ok_BadSaying (mAc (mNm 0) mA0)) (mAc (mXv (He.ga K "BadWalk") 1 ok_BadWalk (mAc (mNm 0) mA0)) mA0)))
    (sSeq (sPar 6 7 (mAc (mXv (He.ga K "BadInputs") 1 ok_BadInputs (mAc (mNm 0) mA0)) (mAc (mXv (He.ga K "NotBare") 1 ok_NotBare (mAc (mNm 0) mA0)) mA0)))
    (sSeq (sSet 8 (mLst (mAc (mTup (mAc (mNm 1) (mAc (mXa K 1 "line") (mAc (mO2 (oIsx K) (.nm 1) (.ex (mFrz (mC (.ref (He.ga K "BadScene")))))) mA0)))) (mAc (mTup (mAc (mNm 2) (mAc (mXa K 2 "line") (mAc (mO2 (oIsx K) (.nm 2) (.ex (mFrz (mC (.ref (He.ga K "BadWorld")))))) mA0)))) mA0))))
    (sSeq (sSet 8 (mO2 oAdd (.nm 8) (.ex (mFrz (mLst (mAc (mTup (mAc (mNm 3) (mAc (mXa K 3 "line") (mAc (mO2 (oIsx K) (.nm 3) (.ex (mFrz (mC (.ref (He.ga K "BadScript")))))) mA0)))) (mAc (mTup (mAc (mNm 4) (mAc (mXa K 4 "index") (mAc (mO2 (oIsx K) (.nm 4) (.ex (mFrz (mC (.ref (He.ga K "BadSaying")))))) mA0)))) mA0)))))))
    (sSeq (sSet 8 (mO2 oAdd (.nm 8) (.ex (mFrz (mLst (mAc (mTup (mAc (mNm 5) (mAc (mXa K 5 "index") (mAc (mO2 (oIsx K) (.nm 5) (.ex (mFrz (mC (.ref (He.ga K "BadWalk")))))) mA0)))) (mAc (mTup (mAc (mNm 6) (mAc (mXa K 6 "index") (mAc (mO2 (oIsx K) (.nm 6) (.ex (mFrz (mC (.ref (He.ga K "BadInputs")))))) mA0)))) mA0)))))))
    (sRet (mO2 oAdd (.nm 8) (.ex (mFrz (mLst (mAc (mTup (mAc (mNm 7) (mAc (mXa K 7 "index") (mAc (mO2 (oIsx K) (.nm 7) (.ex (mFrz (mC (.ref (He.ga K "NotBare")))))) mA0)))) mA0))))))))))))
theorem v__law_numbered (fx : Fx K mg) (o_BadInputs : OkE P w K mg base 1 (He.fAd K ("BadInputs", some "__init__")) P_BadInputs_init 1 (He.ga K "BadInputs") ok_BadInputs) (o_BadSaying : OkE P w K mg base 1 (He.fAd K ("BadSaying", some "__init__")) P_BadSaying_init 1 (He.ga K "BadSaying") ok_BadSaying) (o_BadScene : OkE P w K mg base 1 (He.fAd K ("BadScene", some "__init__")) P_BadScene_init 1 (He.ga K "BadScene") ok_BadScene) (o_BadScript : OkE P w K mg base 1 (He.fAd K ("BadScript", some "__init__")) P_BadScript_init 1 (He.ga K "BadScript") ok_BadScript) (o_BadWalk : OkE P w K mg base 1 (He.fAd K ("BadWalk", some "__init__")) P_BadWalk_init 1 (He.ga K "BadWalk") ok_BadWalk) (o_BadWorld : OkE P w K mg base 1 (He.fAd K ("BadWorld", some "__init__")) P_BadWorld_init 1 (He.ga K "BadWorld") ok_BadWorld) (o_NotBare : OkE P w K mg base 1 (He.fAd K ("NotBare", some "__init__")) P_NotBare_init 1 (He.ga K "NotBare") ok_NotBare) {f : Addr} {cdv : Value} {A : Around} {outer : List Env} {s : Shared} {H : Hp} {E : XK} (hr : RoomG 2 (BX P w K mg base N__law_numbered "_law_numbered" s__law_numbered f cdv A outer s H E).A) (tk : Takes (BX P w K mg base N__law_numbered "_law_numbered" s__law_numbered f cdv A outer s H E) (BW E)) (hpo : PassesOwn (model P w) (BX P w K mg base N__law_numbered "_law_numbered" s__law_numbered f cdv A outer s H E).A (BX P w K mg base N__law_numbered "_law_numbered" s__law_numbered f cdv A outer s H E).env (BX P w K mg base N__law_numbered "_law_numbered" s__law_numbered f cdv A outer s H E).xe) :
    VSs (BX P w K mg base N__law_numbered "_law_numbered" s__law_numbered f cdv A outer s H E) (BW E) 0 (defBody s__law_numbered) (m__law_numbered K) :=
  (vss_cons (vs_par3 (i := 1) (j := 2) (l := 3) rfl sc__law_numbered.nd (va_cons (ve_mkvO o_BadScene fx.x_BadScene hr fx.g_BadScene (va_cons (ve_nm 0) va_nil)) (va_cons (ve_mkvO o_BadWorld fx.x_BadWorld hr fx.g_BadWorld (va_cons (ve_nm 0) va_nil)) (va_cons (ve_mkvO o_BadScript fx.x_BadScript hr fx.g_BadScript (va_cons (ve_nm 0) va_nil)) va_nil))))
      (vss_cons (vs_par (i := 4) (j := 5) rfl sc__law_numbered.nd (va_cons (ve_mkvO o_BadSaying fx.x_BadSaying hr fx.g_BadSaying (va_cons (ve_nm 0) va_nil)) (va_cons (ve_mkvO o_BadWalk fx.x_BadWalk hr fx.g_BadWalk (va_cons (ve_nm 0) va_nil)) va_nil)))
      (vss_cons (vs_par (i := 6) (j := 7) rfl sc__law_numbered.nd (va_cons (ve_mkvO o_BadInputs fx.x_BadInputs hr fx.g_BadInputs (va_cons (ve_nm 0) va_nil)) (va_cons (ve_mkvO o_NotBare fx.x_NotBare hr fx.g_NotBare (va_cons (ve_nm 0) va_nil)) va_nil)))
      (vss_cons (vs_set (i := 8) sc__law_numbered.nd (ve_lst (va_cons (ve_tup (va_cons (ve_nm 1) (va_cons (ve_xa 1) (va_cons (ve_b2 cv_isx rfl fx.b_isinstance bt_isinstance (vo_nm 1) (.fz (ve_gcls fx.g_BadScene))) va_nil)))) (va_cons (ve_tup (va_cons (ve_nm 2) (va_cons (ve_xa 2) (va_cons (ve_b2 cv_isx rfl fx.b_isinstance bt_isinstance (vo_nm 2) (.fz (ve_gcls fx.g_BadWorld))) va_nil)))) va_nil))))
      (vss_cons (vs_set (i := 8) sc__law_numbered.nd (ve_op ov_add (vo_nm 8) (.fz (ve_lst (va_cons (ve_tup (va_cons (ve_nm 3) (va_cons (ve_xa 3) (va_cons (ve_b2 cv_isx rfl fx.b_isinstance bt_isinstance (vo_nm 3) (.fz (ve_gcls fx.g_BadScript))) va_nil)))) (va_cons (ve_tup (va_cons (ve_nm 4) (va_cons (ve_xa 4) (va_cons (ve_b2 cv_isx rfl fx.b_isinstance bt_isinstance (vo_nm 4) (.fz (ve_gcls fx.g_BadSaying))) va_nil)))) va_nil))))))
      (vss_cons (vs_set (i := 8) sc__law_numbered.nd (ve_op ov_add (vo_nm 8) (.fz (ve_lst (va_cons (ve_tup (va_cons (ve_nm 5) (va_cons (ve_xa 5) (va_cons (ve_b2 cv_isx rfl fx.b_isinstance bt_isinstance (vo_nm 5) (.fz (ve_gcls fx.g_BadWalk))) va_nil)))) (va_cons (ve_tup (va_cons (ve_nm 6) (va_cons (ve_xa 6) (va_cons (ve_b2 cv_isx rfl fx.b_isinstance bt_isinstance (vo_nm 6) (.fz (ve_gcls fx.g_BadInputs))) va_nil)))) va_nil))))))
      (vss_one (vs_ret (ve_op ov_add (vo_nm 8) (.fz (ve_lst (va_cons (ve_tup (va_cons (ve_nm 7) (va_cons (ve_xa 7) (va_cons (ve_b2 cv_isx rfl fx.b_isinstance bt_isinstance (vo_nm 7) (.fz (ve_gcls fx.g_NotBare))) va_nil)))) va_nil))))))))))))
abbrev s__law_named : Stmt := top 29
abbrev N__law_named : List Str := ["text", "one", "two", "three", "four", "five", "six", "seven", "found"]
abbrev P__law_named : List Str := ["text"]
theorem sc__law_named : FnScope N__law_named P__law_named (defScope s__law_named) := ⟨rfl, rfl, rfl, by decide +kernel, rfl, by decide +kernel, by decide +kernel⟩
def m__law_named (K : PySem.W.Frag) : MS := (sSeq (sPar 1 2 (mAc (mXv (He.ga K "NoThing") 1 ok_NoThing (mAc (mNm 0) mA0)) (mAc (mXv (He.ga K "NoRow") 1 ok_NoRow (mAc (mNm 0) mA0)) mA0)))
    (sSeq (sPar 3 4 (mAc (mXv (He.ga K "NoMark") 1 ok_NoMark (mAc (mNm 0) mA0)) (mAc (mXv (He.ga K "BadName") 1 ok_BadName (mAc (mNm 0) mA0)) mA0)))
    (sSeq (sPar3 5 6 7 (mAc (mXv (He.ga K "NoButton") 1 ok_NoButton (mAc (mNm 0) mA0)) (mAc (mXv (He.ga K "Taken") 1 ok_Taken (mAc (mNm 0) mA0)) (mAc (mXv (He.ga K "NoGuard") 1 ok_NoGuard (mAc (mNm 0) mA0)) mA0))))
    (sSeq (sSet 8 (mLst (mAc (mTup (mAc (mNm 1) (mAc (mXa K 1 "name") (mAc (mO2 (oIsx K) (.nm 1) (.ex (mFrz (mC (.ref (He.ga K "NoThing")))))) mA0)))) (mAc (mTup (mAc (mNm 2) (mAc (mXa K 2 "name") (mAc (mO2 (oIsx K) (.nm 2) (.ex (mFrz (mC (.ref (He.ga K "NoRow")))))) mA0)))) mA0))))
    (sSeq (sSet 8 (mO2 oAdd (.nm 8) (.ex (mFrz (mLst (mAc (mTup (mAc (mNm 3) (mAc (mXa K 3 "name") (mAc (mO2 (oIsx K) (.nm 3) (.ex (mFrz (mC (.ref (He.ga K "NoMark")))))) mA0)))) (mAc (mTup (mAc (mNm 4) (mAc (mXa K 4 "name") (mAc (mO2 (oIsx K) (.nm 4) (.ex (mFrz (mC (.ref (He.ga K "BadName")))))) mA0)))) mA0)))))))
    (sSeq (sSet 8 (mO2 oAdd (.nm 8) (.ex (mFrz (mLst (mAc (mTup (mAc (mNm 5) (mAc (mXa K 5 "name") (mAc (mO2 (oIsx K) (.nm 5) (.ex (mFrz (mC (.ref (He.ga K "NoButton")))))) mA0)))) (mAc (mTup (mAc (mNm 6) (mAc (mXa K 6 "name") (mAc (mO2 (oIsx K) (.nm 6) (.ex (mFrz (mC (.ref (He.ga K "Taken")))))) mA0)))) mA0)))))))
    (sRet (mO2 oAdd (.nm 8) (.ex (mFrz (mLst (mAc (mTup (mAc (mNm 7) (mAc (mXa K 7 "name") (mAc (mO2 (oIsx K) (.nm 7) (.ex (mFrz (mC (.ref (He.ga K "NoGuard")))))) mA0)))) mA0))))))))))))
theorem v__law_named (fx : Fx K mg) (o_BadName : OkE P w K mg base 1 (He.fAd K ("BadName", some "__init__")) P_BadName_init 1 (He.ga K "BadName") ok_BadName) (o_NoButton : OkE P w K mg base 1 (He.fAd K ("NoButton", some "__init__")) P_NoButton_init 1 (He.ga K "NoButton") ok_NoButton) (o_NoGuard : OkE P w K mg base 1 (He.fAd K ("NoGuard", some "__init__")) P_NoGuard_init 1 (He.ga K "NoGuard") ok_NoGuard) (o_NoMark : OkE P w K mg base 1 (He.fAd K ("NoMark", some "__init__")) P_NoMark_init 1 (He.ga K "NoMark") ok_NoMark) (o_NoRow : OkE P w K mg base 1 (He.fAd K ("NoRow", some "__init__")) P_NoRow_init 1 (He.ga K "NoRow") ok_NoRow) (o_NoThing : OkE P w K mg base 1 (He.fAd K ("NoThing", some "__init__")) P_NoThing_init 1 (He.ga K "NoThing") ok_NoThing) (o_Taken : OkE P w K mg base 1 (He.fAd K ("Taken", some "__init__")) P_Taken_init 1 (He.ga K "Taken") ok_Taken) {f : Addr} {cdv : Value} {A : Around} {outer : List Env} {s : Shared} {H : Hp} {E : XK} (hr : RoomG 2 (BX P w K mg base N__law_named "_law_named" s__law_named f cdv A outer s H E).A) (tk : Takes (BX P w K mg base N__law_named "_law_named" s__law_named f cdv A outer s H E) (BW E)) (hpo : PassesOwn (model P w) (BX P w K mg base N__law_named "_law_named" s__law_named f cdv A outer s H E).A (BX P w K mg base N__law_named "_law_named" s__law_named f cdv A outer s H E).env (BX P w K mg base N__law_named "_law_named" s__law_named f cdv A outer s H E).xe) :
    VSs (BX P w K mg base N__law_named "_law_named" s__law_named f cdv A outer s H E) (BW E) 0 (defBody s__law_named) (m__law_named K) :=
  (vss_cons (vs_par (i := 1) (j := 2) rfl sc__law_named.nd (va_cons (ve_mkvO o_NoThing fx.x_NoThing hr fx.g_NoThing (va_cons (ve_nm 0) va_nil)) (va_cons (ve_mkvO o_NoRow fx.x_NoRow hr fx.g_NoRow (va_cons (ve_nm 0) va_nil)) va_nil)))
      (vss_cons (vs_par (i := 3) (j := 4) rfl sc__law_named.nd (va_cons (ve_mkvO o_NoMark fx.x_NoMark hr fx.g_NoMark (va_cons (ve_nm 0) va_nil)) (va_cons (ve_mkvO o_BadName fx.x_BadName hr fx.g_BadName (va_cons (ve_nm 0) va_nil)) va_nil)))
      (vss_cons (vs_par3 (i := 5) (j := 6) (l := 7) rfl sc__law_named.nd (va_cons (ve_mkvO o_NoButton fx.x_NoButton hr fx.g_NoButton (va_cons (ve_nm 0) va_nil)) (va_cons (ve_mkvO o_Taken fx.x_Taken hr fx.g_Taken (va_cons (ve_nm 0) va_nil)) (va_cons (ve_mkvO o_NoGuard fx.x_NoGuard hr fx.g_NoGuard (va_cons (ve_nm 0) va_nil)) va_nil))))
      (vss_cons (vs_set (i := 8) sc__law_named.nd (ve_lst (va_cons (ve_tup (va_cons (ve_nm 1) (va_cons (ve_xa 1) (va_cons (ve_b2 cv_isx rfl fx.b_isinstance bt_isinstance (vo_nm 1) (.fz (ve_gcls fx.g_NoThing))) va_nil)))) (va_cons (ve_tup (va_cons (ve_nm 2) (va_cons (ve_xa 2) (va_cons (ve_b2 cv_isx rfl fx.b_isinstance bt_isinstance (vo_nm 2) (.fz (ve_gcls fx.g_NoRow))) va_nil)))) va_nil))))
      (vss_cons (vs_set (i := 8) sc__law_named.nd (ve_op ov_add (vo_nm 8) (.fz (ve_lst (va_cons (ve_tup (va_cons (ve_nm 3) (va_cons (ve_xa 3) (va_cons (ve_b2 cv_isx rfl fx.b_isinstance bt_isinstance (vo_nm 3) (.fz (ve_gcls fx.g_NoMark))) va_nil)))) (va_cons (ve_tup (va_cons (ve_nm 4) (va_cons (ve_xa 4) (va_cons (ve_b2 cv_isx rfl fx.b_isinstance bt_isinstance (vo_nm 4) (.fz (ve_gcls fx.g_BadName))) va_nil)))) va_nil))))))
      (vss_cons (vs_set (i := 8) sc__law_named.nd (ve_op ov_add (vo_nm 8) (.fz (ve_lst (va_cons (ve_tup (va_cons (ve_nm 5) (va_cons (ve_xa 5) (va_cons (ve_b2 cv_isx rfl fx.b_isinstance bt_isinstance (vo_nm 5) (.fz (ve_gcls fx.g_NoButton))) va_nil)))) (va_cons (ve_tup (va_cons (ve_nm 6) (va_cons (ve_xa 6) (va_cons (ve_b2 cv_isx rfl fx.b_isinstance bt_isinstance (vo_nm 6) (.fz (ve_gcls fx.g_Taken))) va_nil)))) va_nil))))))
      (vss_one (vs_ret (ve_op ov_add (vo_nm 8) (.fz (ve_lst (va_cons (ve_tup (va_cons (ve_nm 7) (va_cons (ve_xa 7) (va_cons (ve_b2 cv_isx rfl fx.b_isinstance bt_isinstance (vo_nm 7) (.fz (ve_gcls fx.g_NoGuard))) va_nil)))) va_nil))))))))))))
abbrev s__law_others_right : Stmt := top 30
abbrev N__law_others_right : List Str := ["pen", "names", "one", "two", "three", "four", "five", "good"]
abbrev P__law_others_right : List Str := ["pen"]
theorem sc__law_others_right : FnScope N__law_others_right P__law_others_right (defScope s__law_others_right) := ⟨rfl, rfl, rfl, by decide +kernel, rfl, by decide +kernel, by decide +kernel⟩
def t__law_others_right_1 (K : PySem.W.Frag) : MS := (sSeq (sPar3 2 3 4 (mAc (mXv (He.ga K "Barred") 1 ok_Barred (mAc (mO1 oListOf (.nm 1)) mA0)) (mAc (mC (.exv (He.ga K "NoLots") [])) (mAc (mC (.exv (He.ga K "OtherScene") [])) mA0))))
    (sSeq (sPar 5 6 (mAc (mC (.exv (He.ga K "Unlike") [])) (mAc (mC (.exv (He.ga K "NothingToUndo") [])) mA0)))
    (sSeq (sSet 7 (mAndV (mO2 oEq (.ex (mFrz (mXa K 2 "names"))) (.nm 1)) (mCall (sp__law_is_one K) (gE (mNm 2) (gE (mO2 (oIsx K) (.nm 2) (.ex (mFrz (mC (.ref (He.ga K "Barred")))))) g0)))))
    (sSeq (sSet 7 (mAndV (mNm 7) (mAndV (mCall (sp__law_is_one K) (gE (mNm 3) (gE (mO2 (oIsx K) (.nm 3) (.ex (mFrz (mC (.ref (He.ga K "NoLots")))))) g0))) (mCall (sp__law_is_one K) (gE (mNm 4) (gE (mO2 (oIsx K) (.nm 4) (.ex (mFrz (mC (.ref (He.ga K "OtherScene")))))) g0))))))
    (sRet (mAndV (mNm 7) (mAndV (mCall (sp__law_is_one K) (gE (mNm 5) (gE (mO2 (oIsx K) (.nm 5) (.ex (mFrz (mC (.ref (He.ga K "Unlike")))))) g0))) (mCall (sp__law_is_one K) (gE (mNm 6) (gE (mO2 (oIsx K) (.nm 6) (.ex (mFrz (mC (.ref (He.ga K "NothingToUndo")))))) g0))))))))))
def m__law_others_right (K : PySem.W.Frag) : MS := (sSeq (sSet 1 (mCall (sp__law_new_names K) (gN 0 (gE (mCall (sp__law_draw K) (gN 0 (gE (mC (.int 6)) g0))) g0))))
    (t__law_others_right_1 K))
theorem v__law_others_right (fx : Fx K mg) (o__law_draw : OkF P w K mg base 1 (He.fAd K ("_law_draw", none)) P__law_draw (sp__law_draw K)) (o__law_is_one : OkF P w K mg base 2 (He.fAd K ("_law_is_one", none)) P__law_is_one (sp__law_is_one K)) (o__law_new_names : OkF P w K mg base 3 (He.fAd K ("_law_new_names", none)) P__law_new_names (sp__law_new_names K)) (o_Barred : OkE P w K mg base 1 (He.fAd K ("Barred", some "__init__")) P_Barred_init 1 (He.ga K "Barred") ok_Barred) (o_NoLots : OkE0 P w K mg base 1 (He.fAd K ("NoLots", some "__init__")) P_NoLots_init (He.ga K "NoLots")) (o_NothingToUndo : OkE0 P w K mg base 1 (He.fAd K ("NothingToUndo", some "__init__")) P_NothingToUndo_init (He.ga K "NothingToUndo")) (o_OtherScene : OkE0 P w K mg base 1 (He.fAd K ("OtherScene", some "__init__")) P_OtherScene_init (He.ga K "OtherScene")) (o_Unlike : OkE0 P w K mg base 1 (He.fAd K ("Unlike", some "__init__")) P_Unlike_init (He.ga K "Unlike")) {f : Addr} {cdv : Value} {A : Around} {outer : List Env} {s : Shared} {H : Hp} {E : XK} (hr : RoomG 3 (BX P w K mg base N__law_others_right "_law_others_right" s__law_others_right f cdv A outer s H E).A) (tk : Takes (BX P w K mg base N__law_others_right "_law_others_right" s__law_others_right f cdv A outer s H E) (BW E)) (hpo : PassesOwn (model P w) (BX P w K mg base N__law_others_right "_law_others_right" s__law_others_right f cdv A outer s H E).A (BX P w K mg base N__law_others_right "_law_others_right" s__law_others_right f cdv A outer s H E).env (BX P w K mg base N__law_others_right "_law_others_right" s__law_others_right f cdv A outer s H E).xe) :
    VSs (BX P w K mg base N__law_others_right "_law_others_right" s__law_others_right f cdv A outer s H E) (BW E) 1 (defBody s__law_others_right) (m__law_others_right K) :=
  (vss_cons (vs_set (i := 1) sc__law_others_right.nd (ve_callO o__law_new_names hr tk fx.g__law_new_names fx.k__law_new_names (vg_n 0 (vg_e (ve_callO o__law_draw hr tk fx.g__law_draw fx.k__law_draw (vg_n 0 (vg_e ve_int vg_nil))) vg_nil))))
      (vss_cons (vs_par3 (i := 2) (j := 3) (l := 4) rfl sc__law_others_right.nd (va_cons (ve_mkvO o_Barred fx.x_Barred hr fx.g_Barred (va_cons (ve_ty1 cv_list rfl fx.b_list bt_list (vo_nm 1)) va_nil)) (va_cons (ve_mkv0O o_NoLots fx.x_NoLots hr fx.g_NoLots) (va_cons (ve_mkv0O o_OtherScene fx.x_OtherScene hr fx.g_OtherScene) va_nil))))
      (vss_cons (vs_par (i := 5) (j := 6) rfl sc__law_others_right.nd (va_cons (ve_mkv0O o_Unlike fx.x_Unlike hr fx.g_Unlike) (va_cons (ve_mkv0O o_NothingToUndo fx.x_NothingToUndo hr fx.g_NothingToUndo) va_nil)))
      (vss_cons (vs_set (i := 7) sc__law_others_right.nd (ve_and (ve_cmp (ov_eq hr.u64) (.fz (ve_xa 2)) (vo_nm 1)) (ve_one (ve_callO o__law_is_one hr tk fx.g__law_is_one fx.k__law_is_one (vg_e (ve_nm 2) (vg_e (ve_b2 cv_isx rfl fx.b_isinstance bt_isinstance (vo_nm 2) (.fz (ve_gcls fx.g_Barred))) vg_nil))))))
      (vss_cons (vs_set (i := 7) sc__law_others_right.nd (ve_and (ve_nm 7) (ve_and (ve_callO o__law_is_one hr tk fx.g__law_is_one fx.k__law_is_one (vg_e (ve_nm 3) (vg_e (ve_b2 cv_isx rfl fx.b_isinstance bt_isinstance (vo_nm 3) (.fz (ve_gcls fx.g_NoLots))) vg_nil))) (ve_one (ve_callO o__law_is_one hr tk fx.g__law_is_one fx.k__law_is_one (vg_e (ve_nm 4) (vg_e (ve_b2 cv_isx rfl fx.b_isinstance bt_isinstance (vo_nm 4) (.fz (ve_gcls fx.g_OtherScene))) vg_nil)))))))
      (vss_one (vs_ret (ve_and (ve_nm 7) (ve_and (ve_callO o__law_is_one hr tk fx.g__law_is_one fx.k__law_is_one (vg_e (ve_nm 5) (vg_e (ve_b2 cv_isx rfl fx.b_isinstance bt_isinstance (vo_nm 5) (.fz (ve_gcls fx.g_Unlike))) vg_nil))) (ve_one (ve_callO o__law_is_one hr tk fx.g__law_is_one fx.k__law_is_one (vg_e (ve_nm 6) (vg_e (ve_b2 cv_isx rfl fx.b_isinstance bt_isinstance (vo_nm 6) (.fz (ve_gcls fx.g_NothingToUndo))) vg_nil)))))))))))))
abbrev s_law : Stmt := top 31
abbrev N_law : List Str := ["script", "pen", "turn", "number", "text", "e", "field", "kind"]
abbrev P_law : List Str := ["script"]
theorem sc_law : FnScope N_law P_law (defScope s_law) := ⟨rfl, rfl, rfl, by decide +kernel, rfl, by decide +kernel, by decide +kernel⟩
def b_law_1 (K : PySem.W.Frag) : MS := (sIf (mOr (mTst (mRepr (fun x y => decide (x ≠ y)) (mNm 6) (mNm 3))) (mNot (mTru (.ex (mFrz (mCall (sp__law_is_one K) (gE (mNm 5) (gE (mNm 7) g0)))))))) (sRet (mC (.bl false))) sNil)
def b_law_2 (K : PySem.W.Frag) : MS := (sIf (mOr (mTst (mRepr (fun x y => decide (x ≠ y)) (mNm 6) (mNm 4))) (mNot (mTru (.ex (mFrz (mCall (sp__law_is_one K) (gE (mNm 5) (gE (mNm 7) g0)))))))) (sRet (mC (.bl false))) sNil)
def t_law_3 (K : PySem.W.Frag) : MS := (sSeq (sFor (iL (mCall (sp__law_numbered K) (gE (mNm 3) g0))) (tTup 3 (tCons (tN 5) (tCons (tN 6) (tCons (tN 7) tNil)))) (b_law_1 K))
    (sSeq (sFor (iL (mCall (sp__law_named K) (gE (mNm 4) g0))) (tTup 3 (tCons (tN 5) (tCons (tN 6) (tCons (tN 7) tNil)))) (b_law_2 K))
    (sIf (mNot (mTru (.ex (mFrz (mCall (sp__law_others_right K) (gN 1 g0)))))) (sRet (mC (.bl false))) sNil)))
def b_law_4 (K : PySem.W.Frag) : MS := (sSeq (sPar 3 4 (mAc (mO2 oSub (.ex (mFrz (mCall (sp__law_draw K) (gN 1 (gE (mO2 oPow (.ex (mC (.int 10))) (.ex (mC (.int 60)))) g0))))) (.nm 2)) (mAc (mO2 oIx (.ex (mFrz (mCall (sp__law_new_names K) (gN 1 (gE (mC (.int 1)) g0))))) (.ex (mC (.int 0)))) mA0)))
    (t_law_3 K))
def m_law (K : PySem.W.Frag) : MS := (sSeq (sSet 1 (mCall (sp__law_begun_pen K) (gE (mNm 0) g0)))
    (sSeq (sFor (iR1 (mAc (mC (.int 3)) mA0)) (tN 2) (b_law_4 K))
    (sRet (mC (.bl true)))))
theorem v_law (fx : Fx K mg) (o__law_begun_pen : OkF P w K mg base 1 (He.fAd K ("_law_begun_pen", none)) P__law_begun_pen (sp__law_begun_pen K)) (o__law_draw : OkF P w K mg base 1 (He.fAd K ("_law_draw", none)) P__law_draw (sp__law_draw K)) (o__law_is_one : OkF P w K mg base 2 (He.fAd K ("_law_is_one", none)) P__law_is_one (sp__law_is_one K)) (o__law_named : OkF P w K mg base 3 (He.fAd K ("_law_named", none)) P__law_named (sp__law_named K)) (o__law_new_names : OkF P w K mg base 3 (He.fAd K ("_law_new_names", none)) P__law_new_names (sp__law_new_names K)) (o__law_numbered : OkF P w K mg base 3 (He.fAd K ("_law_numbered", none)) P__law_numbered (sp__law_numbered K)) (o__law_others_right : OkF P w K mg base 4 (He.fAd K ("_law_others_right", none)) P__law_others_right (sp__law_others_right K)) {f : Addr} {cdv : Value} {A : Around} {outer : List Env} {s : Shared} {H : Hp} {E : XK} (hr : RoomG 4 (BX P w K mg base N_law "law" s_law f cdv A outer s H E).A) (tk : Takes (BX P w K mg base N_law "law" s_law f cdv A outer s H E) (BW E)) (hpo : PassesOwn (model P w) (BX P w K mg base N_law "law" s_law f cdv A outer s H E).A (BX P w K mg base N_law "law" s_law f cdv A outer s H E).env (BX P w K mg base N_law "law" s_law f cdv A outer s H E).xe) :
    VSs (BX P w K mg base N_law "law" s_law f cdv A outer s H E) (BW E) 0 (defBody s_law) (m_law K) :=
  (vss_cons (vs_set (i := 1) sc_law.nd (ve_callO o__law_begun_pen hr tk fx.g__law_begun_pen fx.k__law_begun_pen (vg_e (ve_nm 0) vg_nil)))
      (vss_cons (vs_for hpo rfl (vi_range1 rfl fx.b_range (va_cons ve_int va_nil)) (vtg_name (i := 2) sc_law.nd) (vss_cons (vs_par (i := 3) (j := 4) rfl sc_law.nd (va_cons (ve_op ov_sub (.fz (ve_callO o__law_draw hr tk fx.g__law_draw fx.k__law_draw (vg_n 1 (vg_e (ve_op ov_pow (.ex ve_int) (.ex ve_int)) vg_nil)))) (vo_nm 2)) (va_cons (ve_ix (ixv hr.u1) (.fz (ve_callO o__law_new_names hr tk fx.g__law_new_names fx.k__law_new_names (vg_n 1 (vg_e ve_int vg_nil)))) (.ex ve_int)) va_nil)))
      (vss_cons (vs_for hpo rfl (vi_list (ve_callO o__law_numbered hr tk fx.g__law_numbered fx.k__law_numbered (vg_e (ve_nm 3) vg_nil))) (vtg_tup rfl (vtgs_cons (vtg_name (i := 5) sc_law.nd) (vtgs_cons (vtg_name (i := 6) sc_law.nd) (vtgs_cons (vtg_name (i := 7) sc_law.nd) vtgs_nil)))) (vss_one (vs_if (VW.vt (vw_or (vt_reprNe hr.z rfl fx.b_repr (ve_nm 6) (ve_nm 3)) (vw_or1 (vt_not (vt_tru (.fz (ve_callO o__law_is_one hr tk fx.g__law_is_one fx.k__law_is_one (vg_e (ve_nm 5) (vg_e (ve_nm 7) vg_nil))))))))) (vss_one (vs_ret ve_bl)) vss_nil)))
      (vss_cons (vs_for hpo rfl (vi_list (ve_callO o__law_named hr tk fx.g__law_named fx.k__law_named (vg_e (ve_nm 4) vg_nil))) (vtg_tup rfl (vtgs_cons (vtg_name (i := 5) sc_law.nd) (vtgs_cons (vtg_name (i := 6) sc_law.nd) (vtgs_cons (vtg_name (i := 7) sc_law.nd) vtgs_nil)))) (vss_one (vs_if (VW.vt (vw_or (vt_reprNe hr.z rfl fx.b_repr (ve_nm 6) (ve_nm 4)) (vw_or1 (vt_not (vt_tru (.fz (ve_callO o__law_is_one hr tk fx.g__law_is_one fx.k__law_is_one (vg_e (ve_nm 5) (vg_e (ve_nm 7) vg_nil))))))))) (vss_one (vs_ret ve_bl)) vss_nil)))
      (vss_one (vs_if (vt_not (vt_tru (.fz (ve_callO o__law_others_right hr tk fx.g__law_others_right fx.k__law_others_right (vg_n 1 vg_nil))))) (vss_one (vs_ret ve_bl)) vss_nil))))))
      (vss_one (vs_ret ve_bl))))
end
end K18
set_option Elab.async false
set_option linter.all false
set_option autoImplicit false
set_option maxRecDepth 100000
set_option maxHeartbeats 4000000
namespace K18
open PySem PySem.Spec PySem.Calls L2 VL
open PyProof.Rows hiding St

theorem py_ints (l : List Int) : (dInts l).py = some (.list (l.map PyData.int)) := by
  have key : ∀ l : List Int, D.pys (l.map D.int) = some (l.map PyData.int) := by
    intro l
    induction l with
    | nil => rfl
    | cons a l ih => simp [D.pys, D.py, ih]
  simp [dInts, D.py, key]
theorem depth_ints (l : List Int) : (PyData.list (l.map PyData.int)).depth ≤ 64 := by
  have key : ∀ l : List Int, PyData.depthAll (l.map PyData.int) ≤ 1 := by
    intro l
    induction l with
    | nil => simp [PyData.depthAll]
    | cons a l ih => simp [PyData.depthAll, PyData.depth]; omega
  have := key l
  simp [PyData.depth]
  omega
theorem eqb_ints (l : List Int) : Eqb (dInts l) := ⟨_, py_ints l, depth_ints l⟩
theorem eqb_nil : Eqb (.lst []) := eqb_ints []
theorem eq_ints_nil (l : List Int) : eqD (dInts l) (.lst []) = l.isEmpty := by
  have h : (D.lst []).py = some (.list []) := rfl
  unfold eqD
  rw [py_ints, h]
  cases l with
  | nil => rfl
  | cons a l => rfl
section
variable {α : Type} {a b c x : α}
theorem lk_cells : look [((.inr "cells" : Key), a), (.inr "turn", b), (.inr "left", c)] (.inr "cells") = some a := rfl
theorem lk_turn : look [((.inr "cells" : Key), a), (.inr "turn", b), (.inr "left", c)] (.inr "turn") = some b := rfl
theorem lk_left : look [((.inr "cells" : Key), a), (.inr "turn", b), (.inr "left", c)] (.inr "left") = some c := rfl
theorem pt_turn : putD [((.inr "cells" : Key), a), (.inr "turn", b), (.inr "left", c)] (.inr "turn") x = [(.inr "cells", a), (.inr "turn", x), (.inr "left", c)] := rfl
theorem pt_left : putD [((.inr "cells" : Key), a), (.inr "turn", b), (.inr "left", c)] (.inr "left") x = [(.inr "cells", a), (.inr "turn", b), (.inr "left", x)] := rfl
end
theorem divW {i j : Int} (h : 0 < j) (h2 : j < 2 ^ 300) : CDivW i j := ⟨h, by
  rw [Nat.log2_lt (by omega)]
  have : j.natAbs < 2 ^ 300 := by omega
  exact Nat.lt_of_lt_of_le this (Nat.pow_le_pow_right (by decide) (by decide))⟩
theorem mulW {i j : Int} (h : -(2 ^ 300) < i ∧ i < 2 ^ 300) (h2 : -(2 ^ 300) < j ∧ j < 2 ^ 300) : CMulW i j := by
  have key : ∀ n : Nat, n < 2 ^ 300 → n.log2 ≤ 300 := by
    intro n hn
    by_cases h0 : n = 0
    · subst h0; decide
    · exact Nat.le_of_lt ((Nat.log2_lt h0).2 hn)
  have a := key i.natAbs (by omega)
  have b := key j.natAbs (by omega)
  unfold CMulW
  omega
theorem powW : CPow 10 18 := ⟨by decide, by decide, by decide⟩
theorem atI_ok {α : Type} {l : List α} {i : Int} (h : 0 ≤ i) (h2 : i < l.length) : ∃ x, atI l i = some x ∧ x ∈ l := by
  have e : atI l i = l[i.toNat]? := by
    have e2 : ixN l.length i = some i.toNat := by
      unfold ixN
      rw [if_pos h, if_pos h2]
    show (ixN l.length i).bind _ = _
    rw [e2]; rfl
  rw [e, List.getElem?_eq_getElem (by omega)]
  exact ⟨_, rfl, List.getElem_mem _⟩
theorem plain__law_draw {K : PySem.W.Frag} (ts : List T) (R : T → Sl → Prop) (XR : XRl) (h : sp__law_draw K ts R XR) : m__law_draw K (begin_ N__law_draw ts) (dEnds 1 P__law_draw.length R XR) := by
  obtain ⟨n, span, pen, rfl, ⟨cells, turn, left, rfl, t0, t1, hc⟩, hn, s0, s1, k⟩ := h
  have en : eqD (.lst (cells.map D.int)) (.lst []) = cells.isEmpty := eq_ints_nil cells
  have eb : Eqb (.lst (cells.map D.int)) := eqb_ints cells
  have eb2 : Eqb (.lst []) := eqb_nil
  have hs : CDivW left span := divW s0 (by omega)
  unfold most at hn
  have t2 : turn ≤ 2 ^ 40 := by omega
  have sz : 3 < sizeLine := by decide +kernel
  have kk : ∀ (a : Int) (l : Int) (tn : Int), 0 ≤ tn → tn ≤ (n : Int) + 1 → R (.frz (.int (a % span))) [some (penT cells tn l), none] := fun a l tn h1 h2 =>
    k _ _ (Int.emod_nonneg _ (by omega)) (Int.emod_lt_of_pos _ s0) ⟨_, _, _, rfl, h1, by omega, hc⟩
  have sq : ∀ (a m c : Int), 0 < m → m < 2 ^ 40 → 0 ≤ c → c < 2 ^ 40 → CMulW (a % m) (a % m + c) := fun a m c h1 h2 h3 h4 => by
    have := Int.emod_nonneg a (b := m) (by omega)
    have := Int.emod_lt_of_pos a h1
    exact mulW (by omega) (by omega)
  have sq0 : ∀ (a m : Int), 0 < m → m < 2 ^ 40 → CMulW (a % m) (a % m) := fun a m h1 h2 => by
    have := Int.emod_nonneg a (b := m) (by omega)
    have := Int.emod_lt_of_pos a h1
    exact mulW (by omega) (by omega)
  have lm : ∀ (b a m : Int), 0 ≤ b → b < 2 ^ 40 → 0 < m → m < 2 ^ 40 → CMulW b (a % m) := fun b a m h3 h4 h1 h2 => by
    have := Int.emod_nonneg a (b := m) (by omega)
    have := Int.emod_lt_of_pos a h1
    exact mulW (by omega) (by omega)
  have m1 : CMulW 61 turn := mulW (by omega) (by omega)
  have m2 : CMulW 19 turn := mulW (by omega) (by omega)
  have m3 : CMulW turn 27919 := mulW (by omega) (by omega)
  have m4 : CMulW turn (turn * 27919 + 10601) := mulW (by omega) (by omega)
  have m5 : ∀ c : Int, CMulW (c % 4294967087) 48611 := fun c => mulW (by omega) (by omega)
  have d64 : ∀ c : Int, CDivW c 64 := fun c => divW (by omega) (by omega)
  have ds : ∀ c : Int, CDivW c span := fun c => divW s0 (by omega)
  by_cases hne : cells = []
  · subst hne
    have en : eqD (.lst []) (.lst []) = true := eq_ints_nil []
    simp [m__law_draw, begin_, N__law_draw, penT, dInts, lk_cells, lk_turn, lk_left, pt_turn, pt_left, hs, s0, dEnds, powW, sz, oNe, eb, eb2, en, fin, m1, m2, m3, m4, m5, d64, ds, sq, sq0, lm]
    repeat' split
    all_goals exact kk _ _ _ (by omega) (by omega)
  · have en2 : cells.isEmpty = false := by cases cells with
      | nil => exact absurd rfl hne
      | cons a l => rfl
    have hl : 0 < cells.length := List.length_pos_iff.2 hne
    obtain ⟨x, e1, e2⟩ := atI_ok (l := cells.map D.int) (i := turn % (cells.length : Int)) (Int.emod_nonneg _ (by omega)) (by rw [List.length_map]; exact Int.emod_lt_of_pos _ (by omega))
    obtain ⟨c, hc1, rfl⟩ := List.mem_map.1 e2
    simp [m__law_draw, begin_, N__law_draw, penT, dInts, lk_cells, lk_turn, lk_left, pt_turn, pt_left, hs, s0, dEnds, powW, sz, oNe, eb, eb2, en, en2, e1, hl, fin, m1, m2, m3, m4, m5, d64, ds, sq, sq0, lm]
    repeat' split
    all_goals exact kk _ _ _ (by omega) (by omega)
end K18
set_option Elab.async false
set_option linter.all false
set_option autoImplicit false
set_option maxRecDepth 100000
set_option maxHeartbeats 4000000
namespace K18
open PySem PySem.Spec PySem.Calls L2 VL
open PyProof.Rows hiding St
theorem sz_of {n : Nat} (h : n < 2 ^ 24) : n < sizeLine := Nat.lt_of_lt_of_le h (by decide +kernel)
section
variable {K : PySem.W.Frag} (ts : List T) (R : T → Sl → Prop) (XR : XRl)
theorem mg_pen {a b c : D} : mergeD [((.inr "cells" : Key), a), (.inr "turn", b), (.inr "left", c)] = [((.inr "cells" : Key), a), (.inr "turn", b), (.inr "left", c)] := rfl
theorem plain__law_begun_pen (h : sp__law_begun_pen K ts R XR) : m__law_begun_pen K (begin_ N__law_begun_pen ts) (dEnds 0 P__law_begun_pen.length R XR) := by
  obtain ⟨ns, rfl, k⟩ := h
  simp [m__law_begun_pen, begin_, N__law_begun_pen, dEnds, fin, mg_pen, cut_to]
  exact k _ ⟨ns.take 63, 0, 0, by simp [penT, dInts], by omega, by omega, by simp; omega⟩
theorem er_perm {α : Type} : ∀ (l : List α) (i : Nat) (y : α), l[i]? = some y → (y :: l.eraseIdx i).Perm l
  | [], i, y, h => by simp at h
  | a :: l, 0, y, h => by simp at h; subst h; exact List.Perm.refl _
  | a :: l, i + 1, y, h => by
    have := er_perm l i y (by simpa using h)
    exact (List.Perm.swap _ _ _).trans (this.cons a)
theorem plain__law_shuffled (h : sp__law_shuffled K ts R XR) : m__law_shuffled K (begin_ N__law_shuffled ts) (dEnds 1 P__law_shuffled.length R XR) := by
  obtain ⟨n, ds, pen, rfl, hp, hn, hl, hq, k⟩ := h
  simp [m__law_shuffled, begin_, N__law_shuffled, dEnds, fin]
  refine ⟨fun m Γ => ∃ rest found pen', Γ = [some pen', some (.frz (.lst ds)), some (.bl rest), some (.bl found)] ∧ penOk (n + found.length) pen' ∧ (found ++ rest).Perm ds ∧ rest.length = m, ⟨_, ds, [], pen, rfl, hp, List.Perm.refl _, rfl⟩, ?_⟩
  rintro m Γ ⟨rest, found, pen', rfl, hp', hpm, hm⟩
  have hlen : found.length + rest.length = ds.length := by rw [← List.length_append]; exact hpm.length_eq
  have hb : Eqb (.lst rest) := hq rest fun e he => hpm.subset (List.mem_append_right _ he)
  simp [oNe, hb, eqD_nil hb]
  split
  · rename_i hr
    subst hr
    rw [List.append_nil] at hpm
    refine k found pen' hpm ?_
    rw [← hpm.length_eq]
    exact hp'
  · rename_i hr
    have hr0 := List.length_pos_iff.2 hr
    refine ⟨n + found.length, _, pen', rfl, hp', by omega, by omega, by omega, fun r pen2 r0 r1 hp2 => ?_⟩
    simp
    refine ⟨by omega, by omega, _, sqi_ok r0 r1, _, List.getElem?_eq_getElem (by omega), sz_of (by omega), ?_⟩
    refine ⟨rest.length - 1, by omega, _, _, _, ⟨rfl, rfl, rfl⟩, ?_, ?_, ?_⟩
    · rw [List.length_append]; exact hp2
    · refine List.Perm.trans ?_ hpm
      rw [List.append_assoc]
      refine List.Perm.append_left _ ?_
      exact er_perm rest r.toNat _ (List.getElem?_eq_getElem (by omega))
    · rw [List.length_eraseIdx, if_pos (by omega)]
theorem strs_of_mem : ∀ {es : List D} {ss : List Str}, (∀ e ∈ es, e ∈ ss.map D.str) → ∃ zs : List Str, es = zs.map D.str
  | [], ss, h => ⟨[], rfl⟩
  | e :: es, ss, h => by
    obtain ⟨zs, e2⟩ := strs_of_mem (es := es) (ss := ss) fun x hx => h x (List.mem_cons_of_mem _ hx)
    obtain ⟨z, _, e3⟩ := List.mem_map.1 (h e List.mem_cons_self)
    exact ⟨z :: zs, by rw [e2, ← e3]; rfl⟩
theorem perm_strs {es ss : List Str} (h : (es.map D.str).Perm (ss.map D.str)) : es.Perm ss := by
  let f : D → Str := fun d => match d with
    | .str s => s
    | _ => ""
  have h2 := h.map f
  rw [List.map_map, List.map_map] at h2
  have e : f ∘ D.str = id := rfl
  rw [e, List.map_id, List.map_id] at h2
  exact h2
theorem plain__law_new_names (h : sp__law_new_names K ts R XR) : m__law_new_names K (begin_ N__law_new_names ts) (dEnds 1 P__law_new_names.length R XR) := by
  obtain ⟨n, many, pen, rfl, hp, hn, h0, k⟩ := h
  simp only [m__law_new_names, begin_, N__law_new_names, dEnds, fin, x_seq, x_set, x_lst, x_ac, x_a0, x_c, List.map, x_toF, x_ret]
  refine ⟨by simp, ?_⟩
  have e : ∀ (Γ : Sl) (X : List D), X = names11.map D.str → (∀ k : List D → Prop, k (names11.map D.str) → k X) := fun _ X e k h => by rw [e]; exact h
  show _
  generalize hX : ([D.str "p", D.str "q", D.str "x", D.str "y", D.str "zz", D.str "date", D.str "rows", D.str "abcdefghijkl", D.str "marks", D.str "out", D.str "nextone"] : List D) = X
  have hX : X = names11.map D.str := hX.symm
  clear e
  simp
  have hX11 : X.length = 11 := by rw [hX]; rfl
  refine ⟨n, _, pen, rfl, hp, by omega, by omega, fun es he => ?_, fun es pen' he hp' => ?_⟩
  · obtain ⟨zs, rfl⟩ := strs_of_mem (by rw [← hX]; exact he)
    exact eqb_strs zs
  · obtain ⟨zs, rfl⟩ := strs_of_mem (es := es) (ss := names11) (by rw [← hX]; exact fun e h => he.subset h)
    simp [cut_to h0]
    rw [hX] at he
    rw [hX11] at hp'
    have := k zs pen' (perm_strs he) hp'
    simpa using this
theorem nl1 : ("\n" : Str).length = 1 := by decide +kernel
theorem sp1l : (" " : Str).length = 1 := by decide +kernel
end
end K18
set_option Elab.async false
set_option linter.all false
set_option autoImplicit false
set_option maxRecDepth 100000
set_option maxHeartbeats 4000000
namespace K18
open PySem PySem.Spec PySem.Calls L2 VL
open PyProof.Rows hiding St
/-- what the plain laws ask besides -/
structure Gx (K : PySem.W.Frag) : Prop where
  exc : ∀ x, x ∈ exN → ExcC K (He.ga K x) ∧ XfC K (He.ga K x)
  kit : ∀ x, x ∈ exN → ∀ y, y ∈ exN → PySem.W.kitOne K (.ref (He.ga K x)) (.ref (He.ga K y)) = some (decide (x = y))
  kitS : ∀ x, x ∈ exN → PySem.W.kitOne K (.ref (He.ga K x)) (.ref (He.ga K "SeatError")) = some true ∧ PySem.W.kitOne K (.ref (He.ga K x)) (.type "ValueError") = some true
  nf_line : ∀ x, x ∈ exN → PySem.W.findIn K (.ref (He.ga K x)) "line" = some none
  nf_index : ∀ x, x ∈ exN → PySem.W.findIn K (.ref (He.ga K x)) "index" = some none
  nf_name : ∀ x, x ∈ exN → PySem.W.findIn K (.ref (He.ga K x)) "name" = some none
  nf_names : ∀ x, x ∈ exN → PySem.W.findIn K (.ref (He.ga K x)) "names" = some none
theorem ex_BadInputs : ("BadInputs" : Str) ∈ exN := by decide +kernel
theorem ex_BadName : ("BadName" : Str) ∈ exN := by decide +kernel
theorem ex_BadSaying : ("BadSaying" : Str) ∈ exN := by decide +kernel
theorem ex_BadScene : ("BadScene" : Str) ∈ exN := by decide +kernel
theorem ex_BadScript : ("BadScript" : Str) ∈ exN := by decide +kernel
theorem ex_BadWalk : ("BadWalk" : Str) ∈ exN := by decide +kernel
theorem ex_BadWorld : ("BadWorld" : Str) ∈ exN := by decide +kernel
theorem ex_Barred : ("Barred" : Str) ∈ exN := by decide +kernel
theorem ex_NoButton : ("NoButton" : Str) ∈ exN := by decide +kernel
theorem ex_NoGuard : ("NoGuard" : Str) ∈ exN := by decide +kernel
theorem ex_NoLots : ("NoLots" : Str) ∈ exN := by decide +kernel
theorem ex_NoMark : ("NoMark" : Str) ∈ exN := by decide +kernel
theorem ex_NoRow : ("NoRow" : Str) ∈ exN := by decide +kernel
theorem ex_NoThing : ("NoThing" : Str) ∈ exN := by decide +kernel
theorem ex_NotBare : ("NotBare" : Str) ∈ exN := by decide +kernel
theorem ex_NothingToUndo : ("NothingToUndo" : Str) ∈ exN := by decide +kernel
theorem ex_OtherScene : ("OtherScene" : Str) ∈ exN := by decide +kernel
theorem ex_Taken : ("Taken" : Str) ∈ exN := by decide +kernel
theorem ex_Unlike : ("Unlike" : Str) ∈ exN := by decide +kernel
section
variable {K : PySem.W.Frag} (ts : List T) (R : T → Sl → Prop) (XR : XRl)
theorem isx_ok (gx : Gx K) {x y : Str} {fs : List (Str × D)} {R : T → Prop} (hx : x ∈ exN) (hy : y ∈ exN) : oIsx K (.exv (He.ga K x) fs) (.ref (He.ga K y)) R = R (.frz (.bl (decide (x = y)))) := by
  rw [x_isx, gx.kit x hx y hy]
  apply propext
  constructor
  · rintro ⟨b, _, e, h⟩
    cases e
    exact h
  · intro h
    exact ⟨_, (gx.exc x hx).1, rfl, h⟩
theorem isx_seat (gx : Gx K) {x : Str} {fs : List (Str × D)} {R : T → Prop} (hx : x ∈ exN) : oIsx K (.exv (He.ga K x) fs) (.ref (He.ga K "SeatError")) R = R (.frz (.bl true)) := by
  rw [x_isx, (gx.kitS x hx).1]
  apply propext
  constructor
  · rintro ⟨b, _, e, h⟩
    cases e
    exact h
  · intro h
    exact ⟨_, (gx.exc x hx).1, rfl, h⟩
theorem isx_val (gx : Gx K) {x : Str} {fs : List (Str × D)} {R : T → Prop} (hx : x ∈ exN) : oIsx K (.exv (He.ga K x) fs) (.ty "ValueError") R = R (.frz (.bl true)) := by
  rw [x_isxT, (gx.kitS x hx).2]
  apply propext
  constructor
  · rintro ⟨b, _, e, h⟩
    cases e
    exact h
  · intro h
    exact ⟨_, (gx.exc x hx).1, rfl, h⟩
theorem plain__law_classes (gx : Gx K) (h : sp__law_classes K ts R XR) : m__law_classes K (begin_ N__law_classes ts) (dEnds 0 P__law_classes.length R XR) := by
  obtain ⟨x, fs, rfl, hx, k⟩ := h
  have e : ∀ {y : Str} {R : T → Prop}, y ∈ exN → oIsx K (.exv (He.ga K x) fs) (.ref (He.ga K y)) R = R (.frz (.bl (decide (x = y)))) := fun hy => isx_ok gx hx hy
  simp [m__law_classes, begin_, N__law_classes, dEnds, fin, -x_isx, e ex_BadInputs, e ex_BadName, e ex_BadSaying, e ex_BadScene, e ex_BadScript, e ex_BadWalk, e ex_BadWorld, e ex_Barred, e ex_NoButton, e ex_NoGuard, e ex_NoLots, e ex_NoMark, e ex_NoRow, e ex_NoThing, e ex_NotBare, e ex_NothingToUndo, e ex_OtherScene, e ex_Taken, e ex_Unlike]
  have key : ∀ (z : Int), z = 1 → R (.frz (.int z)) [none] := fun z hz => by rw [hz]; exact k
  refine key _ ?_
  simp only [exN, List.mem_cons, List.not_mem_nil, or_false] at hx
  rcases hx with rfl | rfl | rfl | rfl | rfl | rfl | rfl | rfl | rfl | rfl | rfl | rfl | rfl | rfl | rfl | rfl | rfl | rfl | rfl <;> decide +kernel
theorem plain__law_is_one (gx : Gx K) (h : sp__law_is_one K ts R XR) : m__law_is_one K (begin_ N__law_is_one ts) (dEnds 0 P__law_is_one.length R XR) := by
  obtain ⟨x, fs, b, rfl, hx, k⟩ := h
  simp [m__law_is_one, begin_, N__law_is_one, dEnds, fin, -x_isx, isx_seat gx hx, isx_val gx hx, sp__law_classes]
  cases b with
  | true => exact ⟨x, rfl, hx, k⟩
  | false => exact k
theorem intLen {i : Int} (h0 : -9 < i) (h1 : i < 2 ^ 210) : (Str.ofString (toString i)).length ≤ 70 := by
  by_cases h : 0 ≤ i
  · exact Nat.le_trans (toString_length_le h (k := 64) (by decide) (Int.lt_of_lt_of_le h1 (by decide))) (by decide)
  · have : i = -1 ∨ i = -2 ∨ i = -3 ∨ i = -4 ∨ i = -5 ∨ i = -6 ∨ i = -7 ∨ i = -8 := by omega
    rcases this with rfl | rfl | rfl | rfl | rfl | rfl | rfl | rfl <;> decide +kernel
theorem intLog {i : Int} (h0 : -9 < i) (h1 : i < 2 ^ 210) : i.natAbs.log2 < 1920 := by
  by_cases hz : i.natAbs = 0
  · rw [hz]; decide
  · rw [Nat.log2_lt hz]
    exact Nat.lt_of_lt_of_le (show i.natAbs < 2 ^ 210 by omega) (Nat.pow_le_pow_right (by decide) (by decide))
theorem okI {a b : Str} {i : Int} (ha : a.length ≤ 100) (hb : b.length ≤ 100) (h0 : -9 < i) (h1 : i < 2 ^ 210) : (Str.empty ++ a).length ≤ sizeLine ∧ i.natAbs.log2 < 1920 ∧ (Str.empty ++ a ++ Str.ofString i.repr).length ≤ sizeLine ∧ (Str.empty ++ a ++ Str.ofString i.repr ++ b).length ≤ sizeLine := by
  have hl : (Str.ofString i.repr).length ≤ 70 := intLen h0 h1
  have h3 : (Str.empty : Str).length = 0 := by decide +kernel
  have hs : 1000 ≤ sizeLine := by decide
  simp only [Str.length_append, h3]
  exact ⟨by omega, intLog h0 h1, by omega, by omega⟩
theorem okS {a t : Str} (ha : a.length ≤ 100) (ht : t.length ≤ 100) : (Str.empty ++ a).length ≤ sizeLine ∧ t.length ≤ sizeLine ∧ (Str.empty ++ a ++ t).length ≤ sizeLine := by
  have h3 : (Str.empty : Str).length = 0 := by decide +kernel
  have hs : 1000 ≤ sizeLine := by decide
  simp only [Str.length_append, h3]
  exact ⟨by omega, by omega, by omega⟩
theorem okv_BadScene {i : Int} {R : List (Str × D) → Prop} (h0 : -9 < i) (h1 : i < 2 ^ 210) : ok_BadScene [.int i] R = R [("line", .int i)] := by
  obtain ⟨a1, a2, a3, a4⟩ := okI (a := "line ") (b := " of the scene is wrong") (by decide +kernel) (by decide +kernel) h0 h1
  simp [okX, g_BadScene_init, e_BadScene_init, N_BadScene_init, a1, a2, a3, a4]
theorem okv_BadWorld {i : Int} {R : List (Str × D) → Prop} (h0 : -9 < i) (h1 : i < 2 ^ 210) : ok_BadWorld [.int i] R = R [("line", .int i)] := by
  obtain ⟨a1, a2, a3, a4⟩ := okI (a := "line ") (b := " of the world is wrong") (by decide +kernel) (by decide +kernel) h0 h1
  simp [okX, g_BadWorld_init, e_BadWorld_init, N_BadWorld_init, a1, a2, a3, a4]
theorem okv_BadScript {i : Int} {R : List (Str × D) → Prop} (h0 : -9 < i) (h1 : i < 2 ^ 210) : ok_BadScript [.int i] R = R [("line", .int i)] := by
  obtain ⟨a1, a2, a3, a4⟩ := okI (a := "line ") (b := " of the script is wrong") (by decide +kernel) (by decide +kernel) h0 h1
  simp [okX, g_BadScript_init, e_BadScript_init, N_BadScript_init, a1, a2, a3, a4]
theorem okv_BadSaying {i : Int} {R : List (Str × D) → Prop} (h0 : -9 < i) (h1 : i < 2 ^ 210) : ok_BadSaying [.int i] R = R [("index", .int i)] := by
  obtain ⟨a1, a2, a3, a4⟩ := okI (a := "word ") (b := " of the saying is wrong") (by decide +kernel) (by decide +kernel) h0 h1
  simp [okX, g_BadSaying_init, e_BadSaying_init, N_BadSaying_init, a1, a2, a3, a4]
theorem okv_BadWalk {i : Int} {R : List (Str × D) → Prop} (h0 : -9 < i) (h1 : i < 2 ^ 210) : ok_BadWalk [.int i] R = R [("index", .int i)] := by
  obtain ⟨a1, a2, a3, a4⟩ := okI (a := "word ") (b := " of the walk is wrong") (by decide +kernel) (by decide +kernel) h0 h1
  simp [okX, g_BadWalk_init, e_BadWalk_init, N_BadWalk_init, a1, a2, a3, a4]
theorem okv_BadInputs {i : Int} {R : List (Str × D) → Prop} (h0 : -9 < i) (h1 : i < 2 ^ 210) : ok_BadInputs [.int i] R = R [("index", .int i)] := by
  obtain ⟨a1, a2, a3, a4⟩ := okI (a := "input ") (b := " is wrong") (by decide +kernel) (by decide +kernel) h0 h1
  simp [okX, g_BadInputs_init, e_BadInputs_init, N_BadInputs_init, a1, a2, a3, a4]
theorem okv_NotBare {i : Int} {R : List (Str × D) → Prop} (h0 : -9 < i) (h1 : i < 2 ^ 210) : ok_NotBare [.int i] R = R [("index", .int i)] := by
  obtain ⟨a1, a2, a3, a4⟩ := okI (a := "saying ") (b := " has registers") (by decide +kernel) (by decide +kernel) h0 h1
  simp [okX, g_NotBare_init, e_NotBare_init, N_NotBare_init, a1, a2, a3, a4]
theorem okv_NoThing {z : Str} {R : List (Str × D) → Prop} (h : z.length ≤ 100) : ok_NoThing [.str z] R = R [("name", .str z)] := by
  obtain ⟨a1, a2, a3⟩ := okS (a := "no thing: ") (by decide +kernel) h
  simp [okX, g_NoThing_init, e_NoThing_init, N_NoThing_init, a1, a2, a3]
theorem okv_NoRow {z : Str} {R : List (Str × D) → Prop} (h : z.length ≤ 100) : ok_NoRow [.str z] R = R [("name", .str z)] := by
  obtain ⟨a1, a2, a3⟩ := okS (a := "no row: ") (by decide +kernel) h
  simp [okX, g_NoRow_init, e_NoRow_init, N_NoRow_init, a1, a2, a3]
theorem okv_NoMark {z : Str} {R : List (Str × D) → Prop} (h : z.length ≤ 100) : ok_NoMark [.str z] R = R [("name", .str z)] := by
  obtain ⟨a1, a2, a3⟩ := okS (a := "no mark: ") (by decide +kernel) h
  simp [okX, g_NoMark_init, e_NoMark_init, N_NoMark_init, a1, a2, a3]
theorem okv_BadName {z : Str} {R : List (Str × D) → Prop} (h : z.length ≤ 100) : ok_BadName [.str z] R = R [("name", .str z)] := by
  obtain ⟨a1, a2, a3⟩ := okS (a := "no name: ") (by decide +kernel) h
  simp [okX, g_BadName_init, e_BadName_init, N_BadName_init, a1, a2, a3]
theorem okv_NoButton {z : Str} {R : List (Str × D) → Prop} (h : z.length ≤ 100) : ok_NoButton [.str z] R = R [("name", .str z)] := by
  obtain ⟨a1, a2, a3⟩ := okS (a := "no button: ") (by decide +kernel) h
  simp [okX, g_NoButton_init, e_NoButton_init, N_NoButton_init, a1, a2, a3]
theorem okv_Taken {z : Str} {R : List (Str × D) → Prop} (h : z.length ≤ 100) : ok_Taken [.str z] R = R [("name", .str z)] := by
  obtain ⟨a1, a2, a3⟩ := okS (a := "taken: ") (by decide +kernel) h
  simp [okX, g_Taken_init, e_Taken_init, N_Taken_init, a1, a2, a3]
theorem okv_NoGuard {z : Str} {R : List (Str × D) → Prop} (h : z.length ≤ 100) : ok_NoGuard [.str z] R = R [("name", .str z)] := by
  obtain ⟨a1, a2, a3⟩ := okS (a := "no guard: ") (by decide +kernel) h
  simp [okX, g_NoGuard_init, e_NoGuard_init, N_NoGuard_init, a1, a2, a3]
theorem plain__law_numbered (gx : Gx K) (h : sp__law_numbered K ts R XR) : m__law_numbered K (begin_ N__law_numbered ts) (dEnds 0 P__law_numbered.length R XR) := by
  obtain ⟨i, rfl, h0, h1, k⟩ := h
  simp (config := {maxSteps := 5000000}) [m__law_numbered, begin_, N__law_numbered, dEnds, fin, -x_isx, List.lookup, okv_BadScene h0 h1, okv_BadWorld h0 h1, okv_BadScript h0 h1, okv_BadSaying h0 h1, okv_BadWalk h0 h1, okv_BadInputs h0 h1, okv_NotBare h0 h1, isx_ok gx ex_BadScene ex_BadScene, isx_ok gx ex_BadWorld ex_BadWorld, isx_ok gx ex_BadScript ex_BadScript, isx_ok gx ex_BadSaying ex_BadSaying, isx_ok gx ex_BadWalk ex_BadWalk, isx_ok gx ex_BadInputs ex_BadInputs, isx_ok gx ex_NotBare ex_NotBare, (gx.exc _ ex_BadScene).2, (gx.exc _ ex_BadWorld).2, (gx.exc _ ex_BadScript).2, (gx.exc _ ex_BadSaying).2, (gx.exc _ ex_BadWalk).2, (gx.exc _ ex_BadInputs).2, (gx.exc _ ex_NotBare).2, gx.nf_line _ ex_BadScene, gx.nf_line _ ex_BadWorld, gx.nf_line _ ex_BadScript, gx.nf_index _ ex_BadSaying, gx.nf_index _ ex_BadWalk, gx.nf_index _ ex_BadInputs, gx.nf_index _ ex_NotBare]
  refine ⟨by decide, by decide, by decide, k _ fun d hd => ?_⟩
  simp only [List.mem_cons, List.not_mem_nil, or_false] at hd
  rcases hd with rfl | rfl | rfl | rfl | rfl | rfl | rfl
  · exact ⟨_, _, ex_BadScene, rfl⟩
  · exact ⟨_, _, ex_BadWorld, rfl⟩
  · exact ⟨_, _, ex_BadScript, rfl⟩
  · exact ⟨_, _, ex_BadSaying, rfl⟩
  · exact ⟨_, _, ex_BadWalk, rfl⟩
  · exact ⟨_, _, ex_BadInputs, rfl⟩
  · exact ⟨_, _, ex_NotBare, rfl⟩
theorem plain__law_named (gx : Gx K) (h : sp__law_named K ts R XR) : m__law_named K (begin_ N__law_named ts) (dEnds 0 P__law_named.length R XR) := by
  obtain ⟨t, rfl, h0, k⟩ := h
  have ht : t.length ≤ 100 := by omega
  simp (config := {maxSteps := 5000000}) [m__law_named, begin_, N__law_named, dEnds, fin, -x_isx, List.lookup, okv_NoThing ht, okv_NoRow ht, okv_NoMark ht, okv_BadName ht, okv_NoButton ht, okv_Taken ht, okv_NoGuard ht, isx_ok gx ex_NoThing ex_NoThing, isx_ok gx ex_NoRow ex_NoRow, isx_ok gx ex_NoMark ex_NoMark, isx_ok gx ex_BadName ex_BadName, isx_ok gx ex_NoButton ex_NoButton, isx_ok gx ex_Taken ex_Taken, isx_ok gx ex_NoGuard ex_NoGuard, (gx.exc _ ex_NoThing).2, (gx.exc _ ex_NoRow).2, (gx.exc _ ex_NoMark).2, (gx.exc _ ex_BadName).2, (gx.exc _ ex_NoButton).2, (gx.exc _ ex_Taken).2, (gx.exc _ ex_NoGuard).2, gx.nf_name _ ex_NoThing, gx.nf_name _ ex_NoRow, gx.nf_name _ ex_NoMark, gx.nf_name _ ex_BadName, gx.nf_name _ ex_NoButton, gx.nf_name _ ex_Taken, gx.nf_name _ ex_NoGuard]
  refine ⟨by decide, by decide, by decide, k _ fun d hd => ?_⟩
  simp only [List.mem_cons, List.not_mem_nil, or_false] at hd
  rcases hd with rfl | rfl | rfl | rfl | rfl | rfl | rfl
  · exact ⟨_, _, ex_NoThing, rfl⟩
  · exact ⟨_, _, ex_NoRow, rfl⟩
  · exact ⟨_, _, ex_NoMark, rfl⟩
  · exact ⟨_, _, ex_BadName, rfl⟩
  · exact ⟨_, _, ex_NoButton, rfl⟩
  · exact ⟨_, _, ex_Taken, rfl⟩
  · exact ⟨_, _, ex_NoGuard, rfl⟩
end
end K18
set_option Elab.async false
set_option linter.all false
set_option autoImplicit false
set_option maxRecDepth 100000
set_option maxHeartbeats 4000000
namespace K18
open PySem PySem.Spec PySem.Calls L2 VL
open PyProof.Rows hiding St
section
variable {K : PySem.W.Frag} (ts : List T) (R : T → Sl → Prop) (XR : XRl)
theorem okv_Barred {zs : List Str} {R : List (Str × D) → Prop} (h : zs.length ≤ 100) : ok_Barred [.lst (zs.map D.str)] R = R [("names", .lst (zs.map D.str))] := by
  obtain ⟨a1, a2, a3, a4⟩ := okI (a := "") (b := " guards would be false") (i := zs.length) (by decide +kernel) (by decide +kernel) (by omega) (by omega)
  have e0 : (Str.empty ++ ("" : Str)) = Str.empty := by decide +kernel
  rw [e0] at a3 a4
  have hg : zs.length.log2 < 1920 := a2
  simp [okX, g_Barred_init, e_Barred_init, N_Barred_init, hg, a3, a4]
theorem one_ok {x : Str} {fs : List (Str × D)} {b : Bool} {R : T → Sl → Prop} {XR : XRl} (hx : x ∈ exN) : sp__law_is_one K [.frz (.exv (He.ga K x) fs), .frz (.bl b)] R XR = R (.frz (.bl b)) [none, none] := by
  apply propext
  constructor
  · rintro ⟨y, gs, c, e, _, h⟩
    simp only [exT, List.cons.injEq, T.frz.injEq, D.bl.injEq, and_true] at e
    rw [e.2]
    exact h
  · exact fun h => ⟨x, fs, b, rfl, hx, h⟩
theorem eq_same {zs : List Str} {R : T → Prop} : oEq (.lst (zs.map D.str)) (.lst (zs.map D.str)) R = R (.frz (.bl true)) := by
  simp [oEq, eqb_strs, eqD_strs]
theorem plain__law_others_right (gx : Gx K) (h : sp__law_others_right K ts R XR) : m__law_others_right K (begin_ N__law_others_right ts) (dEnds 1 P__law_others_right.length R XR) := by
  obtain ⟨n, pen, rfl, hp, hn, k⟩ := h
  simp [m__law_others_right, begin_, N__law_others_right, dEnds, fin, -x_isx]
  refine ⟨n, 6, pen, rfl, hp, by omega, by omega, by omega, fun r pen2 r0 r1 hp2 => ?_⟩
  simp [-x_isx]
  refine ⟨n + 1, r, pen2, rfl, hp2, by omega, r0, fun es pen3 hpm hp3 => ?_⟩
  have hl : (es.take r.toNat).length ≤ 100 := by
    have := hpm.length_eq
    simp [names11] at this
    simp
    omega
  generalize es.take r.toNat = zs at *
  simp (config := {maxSteps := 5000000}) [t__law_others_right_1, -x_isx, List.lookup, okv_Barred hl, eq_same, one_ok ex_Barred, one_ok ex_NoLots, one_ok ex_OtherScene, one_ok ex_Unlike, one_ok ex_NothingToUndo, isx_ok gx ex_Barred ex_Barred, isx_ok gx ex_NoLots ex_NoLots, isx_ok gx ex_OtherScene ex_OtherScene, isx_ok gx ex_Unlike ex_Unlike, isx_ok gx ex_NothingToUndo ex_NothingToUndo, (gx.exc _ ex_Barred).2, gx.nf_names _ ex_Barred]
  exact k _ hp3
theorem shI {i : Int} (h0 : -9 < i) (h1 : i < 2 ^ 210) : ShOk (.int i) := by
  have hl := intLen h0 h1
  have hg := intLog h0 h1
  refine ⟨?_, by simp [PyData.depth], fun _ => ?_⟩
  · simp [PyData.showable]
    omega
  · simp [PyData.shown]
    exact Nat.le_trans hl (by decide)
theorem shS {t : Str} (h : t.length ≤ 100) : ShOk (.str t) := by
  refine shOk_of ?_ ?_ ?_ ?_
  · simp [PyData.showable]
  · simp [PyData.depth]
  · have e : t.cps.size = t.length := rfl
    simp [PyData.weight]
    omega
  · simp [PyData.intsShort]
end
section
variable {K : PySem.W.Frag}
theorem loop_num {i : Int} {x0 x1 x2 x4 x5 x6 x7 : Option T} {M : VEnds} (h0 : -9 < i) (h1 : i < 2 ^ 210) (ds : List D) (hd : ∀ d ∈ ds, isTold K (.int i) d)
    (hM : ∀ x5 x6 x7, M.nx [x0, x1, x2, some (.frz (.int i)), x4, x5, x6, x7]) :
    forL (VL.tTup 3 (VL.tCons (tN 5) (VL.tCons (tN 6) (VL.tCons (tN 7) VL.tNil)))) (b_law_1 K) M ds [x0, x1, x2, some (.frz (.int i)), x4, x5, x6, x7] := by
  refine forL_inv (fun ds Γ => ∃ x5 x6 x7, Γ = [x0, x1, x2, some (.frz (.int i)), x4, x5, x6, x7] ∧ ∀ d ∈ ds, isTold K (.int i) d) ?_ ?_ _ _ ⟨x5, x6, x7, rfl, hd⟩
  · rintro d ds _ N ⟨x5, x6, x7, rfl, hd⟩ hN
    obtain ⟨x, fs, hx, rfl⟩ := hd d List.mem_cons_self
    simp [b_law_1, one_ok hx]
    refine ⟨_, rfl, shI h0 h1, _, rfl, shI h0 h1, ?_⟩
    rw [if_pos rfl]
    exact hN _ ⟨_, _, _, rfl, fun d h => hd d (List.mem_cons_of_mem _ h)⟩
  · rintro _ ⟨x5, x6, x7, rfl, hd⟩
    exact hM _ _ _
theorem loop_nam {t : Str} {x0 x1 x2 x3 x5 x6 x7 : Option T} {M : VEnds} (ht : t.length ≤ 100) (ds : List D) (hd : ∀ d ∈ ds, isTold K (.str t) d)
    (hM : ∀ x5 x6 x7, M.nx [x0, x1, x2, x3, some (.frz (.str t)), x5, x6, x7]) :
    forL (VL.tTup 3 (VL.tCons (tN 5) (VL.tCons (tN 6) (VL.tCons (tN 7) VL.tNil)))) (b_law_2 K) M ds [x0, x1, x2, x3, some (.frz (.str t)), x5, x6, x7] := by
  refine forL_inv (fun ds Γ => ∃ x5 x6 x7, Γ = [x0, x1, x2, x3, some (.frz (.str t)), x5, x6, x7] ∧ ∀ d ∈ ds, isTold K (.str t) d) ?_ ?_ _ _ ⟨x5, x6, x7, rfl, hd⟩
  · rintro d ds _ N ⟨x5, x6, x7, rfl, hd⟩ hN
    obtain ⟨x, fs, hx, rfl⟩ := hd d List.mem_cons_self
    simp [b_law_2, one_ok hx]
    refine ⟨_, rfl, shS ht, _, rfl, shS ht, ?_⟩
    rw [if_pos rfl]
    exact hN _ ⟨_, _, _, rfl, fun d h => hd d (List.mem_cons_of_mem _ h)⟩
  · rintro _ ⟨x5, x6, x7, rfl, hd⟩
    exact hM _ _ _
theorem names_len {z : Str} (h : z ∈ names11) : z.length ≤ 12 := by
  have : ∀ z ∈ names11, z.length ≤ 12 := by decide +kernel
  exact this z h
theorem loop_turn {pen : T} {x0 x2 x3 x4 x5 x6 x7 : Option T} {M : VEnds} (hp : penOk 0 pen) (hM : ∀ Γ, M.nx Γ) :
    forL (tN 2) (b_law_4 K) M (rngD 0 3) [x0, some pen, x2, x3, x4, x5, x6, x7] := by
  have e3 : rngD 0 3 = [D.int 0, .int 1, .int 2] := rfl
  rw [e3]
  refine forL_inv (fun ds Γ => ∃ n pen x2 x3 x4 x5 x6 x7, Γ = [x0, some pen, x2, x3, x4, x5, x6, x7] ∧ penOk n pen ∧ n + 24 * ds.length ≤ 72 ∧ ∀ d ∈ ds, ∃ k : Int, d = .int k ∧ 0 ≤ k ∧ k ≤ 2) ?_ ?_ _ _ ⟨0, pen, x2, x3, x4, x5, x6, x7, rfl, hp, by simp, fun d hd => ?_⟩
  · rintro d ds _ N ⟨n, pen', x2, x3, x4, x5, x6, x7, rfl, hp', hn, hd⟩ hN
    obtain ⟨k, rfl, k0, k2⟩ := hd d List.mem_cons_self
    simp only [List.length_cons] at hn
    have hmost : 100 < most := by decide
    simp [b_law_4]
    refine ⟨⟨by decide, by decide, by decide⟩, n, _, pen', rfl, hp', by omega, by decide, by decide, fun r pen2 r0 r1 hp2 => ?_⟩
    simp
    refine ⟨n + 1, 1, pen2, rfl, hp2, by omega, by omega, fun es pen3 hpm hp3 => ?_⟩
    cases es with
    | nil => exact absurd hpm.length_eq (by decide)
    | cons a es =>
      have ha : a.length ≤ 12 := names_len (hpm.subset List.mem_cons_self)
      have r2 : r < 2 ^ 209 := Int.lt_trans r1 (by decide)
      simp
      refine ⟨.str a, rfl, ?_⟩
      simp [t_law_3]
      refine ⟨r - k, rfl, by omega, by omega, fun ds1 hd1 => ?_⟩
      simp
      refine loop_num (by omega) (by omega) ds1 hd1 fun x5 x6 x7 => ?_
      simp
      refine ⟨a, rfl, ha, fun ds2 hd2 => ?_⟩
      simp
      refine loop_nam (by omega) ds2 hd2 fun x5 x6 x7 => ?_
      simp
      refine ⟨n + 12, pen3, rfl, hp3, by omega, fun pen4 hp4 => ?_⟩
      simp
      exact hN _ ⟨n + 24, pen4, _, _, _, _, _, _, rfl, hp4, by omega, fun d h => hd d (List.mem_cons_of_mem _ h)⟩
  · rintro _ ⟨n, pen', x2, x3, x4, x5, x6, x7, rfl, _⟩
    exact hM _
  · simp at hd
    rcases hd with rfl | rfl | rfl
    · exact ⟨0, rfl, by decide, by decide⟩
    · exact ⟨1, rfl, by decide, by decide⟩
    · exact ⟨2, rfl, by decide, by decide⟩
end
section
variable {K : PySem.W.Frag} (ts : List T) (R : T → Sl → Prop) (XR : XRl)
theorem plain_law (h : sp_law K ts R XR) : m_law K (begin_ N_law ts) (dEnds 0 P_law.length R XR) := by
  obtain ⟨ns, rfl, k⟩ := h
  simp [m_law, begin_, N_law, dEnds, fin, sp__law_begun_pen]
  intro pen hp
  exact loop_turn hp fun Γ => k _
end
end K18
set_option Elab.async false
set_option linter.all false
set_option autoImplicit false
set_option maxRecDepth 100000
set_option maxHeartbeats 4000000
namespace K18
open PySem PySem.Spec PySem.Calls L2 VL
open PyProof.Rows hiding St
section
variable {P : Program} {w : World} {K : PySem.W.Frag} {mg : Str → Option Value} {base : Heap}
theorem fg__law_begun_pen (fx : Fx K mg) (gx : Gx K) {fd : FuncData} (F : FunD K "_law_begun_pen" "_law_begun_pen" (defArgs s__law_begun_pen) (defBody s__law_begun_pen) (defScope s__law_begun_pen) [] [] (He.fAd K ("_law_begun_pen", none)) fd) : FnG P w K mg base 1 (He.fAd K ("_law_begun_pen", none)) fd P__law_begun_pen (lift K P__law_begun_pen.length (sp__law_begun_pen K)) :=
  vfn 0 F sc__law_begun_pen (by decide) (fun _ _ _ _ _ _ hr tk hpo => ⟨_, v__law_begun_pen fx  hr tk hpo, fun ts R XR h _ => plain__law_begun_pen ts R XR  h⟩)
theorem ok__law_begun_pen (fx : Fx K mg) (gx : Gx K) {fd : FuncData} (F : FunD K "_law_begun_pen" "_law_begun_pen" (defArgs s__law_begun_pen) (defBody s__law_begun_pen) (defScope s__law_begun_pen) [] [] (He.fAd K ("_law_begun_pen", none)) fd) : OkF P w K mg base 1 (He.fAd K ("_law_begun_pen", none)) P__law_begun_pen (sp__law_begun_pen K) :=
  ⟨fd, fg__law_begun_pen fx gx  F, F.bindsN fun _ _ _ _ _ _ us hl => match us, hl with | [_], _ => rfl⟩
theorem fg__law_draw (fx : Fx K mg) (gx : Gx K) {fd : FuncData} (F : FunD K "_law_draw" "_law_draw" (defArgs s__law_draw) (defBody s__law_draw) (defScope s__law_draw) [] [] (He.fAd K ("_law_draw", none)) fd) : FnG P w K mg base 1 (He.fAd K ("_law_draw", none)) fd P__law_draw (lift K P__law_draw.length (sp__law_draw K)) :=
  vfn 1 F sc__law_draw (by decide) (fun _ _ _ _ _ _ hr tk hpo => ⟨_, v__law_draw fx  hr tk hpo, fun ts R XR h _ => plain__law_draw ts R XR  h⟩)
theorem ok__law_draw (fx : Fx K mg) (gx : Gx K) {fd : FuncData} (F : FunD K "_law_draw" "_law_draw" (defArgs s__law_draw) (defBody s__law_draw) (defScope s__law_draw) [] [] (He.fAd K ("_law_draw", none)) fd) : OkF P w K mg base 1 (He.fAd K ("_law_draw", none)) P__law_draw (sp__law_draw K) :=
  ⟨fd, fg__law_draw fx gx  F, F.bindsN fun _ _ _ _ _ _ us hl => match us, hl with | [_, _], _ => rfl⟩
theorem fg__law_shuffled (fx : Fx K mg) (gx : Gx K) (o__law_draw : OkF P w K mg base 1 (He.fAd K ("_law_draw", none)) P__law_draw (sp__law_draw K)) {fd : FuncData} (F : FunD K "_law_shuffled" "_law_shuffled" (defArgs s__law_shuffled) (defBody s__law_shuffled) (defScope s__law_shuffled) [] [] (He.fAd K ("_law_shuffled", none)) fd) : FnG P w K mg base 2 (He.fAd K ("_law_shuffled", none)) fd P__law_shuffled (lift K P__law_shuffled.length (sp__law_shuffled K)) :=
  vfn 1 F sc__law_shuffled (by decide) (fun _ _ _ _ _ _ hr tk hpo => ⟨_, v__law_shuffled fx o__law_draw hr tk hpo, fun ts R XR h _ => plain__law_shuffled ts R XR  h⟩)
theorem ok__law_shuffled (fx : Fx K mg) (gx : Gx K) (o__law_draw : OkF P w K mg base 1 (He.fAd K ("_law_draw", none)) P__law_draw (sp__law_draw K)) {fd : FuncData} (F : FunD K "_law_shuffled" "_law_shuffled" (defArgs s__law_shuffled) (defBody s__law_shuffled) (defScope s__law_shuffled) [] [] (He.fAd K ("_law_shuffled", none)) fd) : OkF P w K mg base 2 (He.fAd K ("_law_shuffled", none)) P__law_shuffled (sp__law_shuffled K) :=
  ⟨fd, fg__law_shuffled fx gx o__law_draw F, F.bindsN fun _ _ _ _ _ _ us hl => match us, hl with | [_, _], _ => rfl⟩
theorem fg__law_new_names (fx : Fx K mg) (gx : Gx K) (o__law_shuffled : OkF P w K mg base 2 (He.fAd K ("_law_shuffled", none)) P__law_shuffled (sp__law_shuffled K)) {fd : FuncData} (F : FunD K "_law_new_names" "_law_new_names" (defArgs s__law_new_names) (defBody s__law_new_names) (defScope s__law_new_names) [] [] (He.fAd K ("_law_new_names", none)) fd) : FnG P w K mg base 3 (He.fAd K ("_law_new_names", none)) fd P__law_new_names (lift K P__law_new_names.length (sp__law_new_names K)) :=
  vfn 1 F sc__law_new_names (by decide) (fun _ _ _ _ _ _ hr tk hpo => ⟨_, v__law_new_names fx o__law_shuffled hr tk hpo, fun ts R XR h _ => plain__law_new_names ts R XR  h⟩)
theorem ok__law_new_names (fx : Fx K mg) (gx : Gx K) (o__law_shuffled : OkF P w K mg base 2 (He.fAd K ("_law_shuffled", none)) P__law_shuffled (sp__law_shuffled K)) {fd : FuncData} (F : FunD K "_law_new_names" "_law_new_names" (defArgs s__law_new_names) (defBody s__law_new_names) (defScope s__law_new_names) [] [] (He.fAd K ("_law_new_names", none)) fd) : OkF P w K mg base 3 (He.fAd K ("_law_new_names", none)) P__law_new_names (sp__law_new_names K) :=
  ⟨fd, fg__law_new_names fx gx o__law_shuffled F, F.bindsN fun _ _ _ _ _ _ us hl => match us, hl with | [_, _], _ => rfl⟩
theorem fg__law_classes (fx : Fx K mg) (gx : Gx K) {fd : FuncData} (F : FunD K "_law_classes" "_law_classes" (defArgs s__law_classes) (defBody s__law_classes) (defScope s__law_classes) [] [] (He.fAd K ("_law_classes", none)) fd) : FnG P w K mg base 1 (He.fAd K ("_law_classes", none)) fd P__law_classes (lift K P__law_classes.length (sp__law_classes K)) :=
  vfn 0 F sc__law_classes (by decide) (fun _ _ _ _ _ _ hr tk hpo => ⟨_, v__law_classes fx  hr tk hpo, fun ts R XR h _ => plain__law_classes ts R XR gx h⟩)
theorem ok__law_classes (fx : Fx K mg) (gx : Gx K) {fd : FuncData} (F : FunD K "_law_classes" "_law_classes" (defArgs s__law_classes) (defBody s__law_classes) (defScope s__law_classes) [] [] (He.fAd K ("_law_classes", none)) fd) : OkF P w K mg base 1 (He.fAd K ("_law_classes", none)) P__law_classes (sp__law_classes K) :=
  ⟨fd, fg__law_classes fx gx  F, F.bindsN fun _ _ _ _ _ _ us hl => match us, hl with | [_], _ => rfl⟩
theorem fg__law_is_one (fx : Fx K mg) (gx : Gx K) (o__law_classes : OkF P w K mg base 1 (He.fAd K ("_law_classes", none)) P__law_classes (sp__law_classes K)) {fd : FuncData} (F : FunD K "_law_is_one" "_law_is_one" (defArgs s__law_is_one) (defBody s__law_is_one) (defScope s__law_is_one) [] [] (He.fAd K ("_law_is_one", none)) fd) : FnG P w K mg base 2 (He.fAd K ("_law_is_one", none)) fd P__law_is_one (lift K P__law_is_one.length (sp__law_is_one K)) :=
  vfn 0 F sc__law_is_one (by decide) (fun _ _ _ _ _ _ hr tk hpo => ⟨_, v__law_is_one fx o__law_classes hr tk hpo, fun ts R XR h _ => plain__law_is_one ts R XR gx h⟩)
theorem ok__law_is_one (fx : Fx K mg) (gx : Gx K) (o__law_classes : OkF P w K mg base 1 (He.fAd K ("_law_classes", none)) P__law_classes (sp__law_classes K)) {fd : FuncData} (F : FunD K "_law_is_one" "_law_is_one" (defArgs s__law_is_one) (defBody s__law_is_one) (defScope s__law_is_one) [] [] (He.fAd K ("_law_is_one", none)) fd) : OkF P w K mg base 2 (He.fAd K ("_law_is_one", none)) P__law_is_one (sp__law_is_one K) :=
  ⟨fd, fg__law_is_one fx gx o__law_classes F, F.bindsN fun _ _ _ _ _ _ us hl => match us, hl with | [_, _], _ => rfl⟩
theorem fg__law_numbered (fx : Fx K mg) (gx : Gx K) (o_BadInputs : OkE P w K mg base 1 (He.fAd K ("BadInputs", some "__init__")) P_BadInputs_init 1 (He.ga K "BadInputs") ok_BadInputs) (o_BadSaying : OkE P w K mg base 1 (He.fAd K ("BadSaying", some "__init__")) P_BadSaying_init 1 (He.ga K "BadSaying") ok_BadSaying) (o_BadScene : OkE P w K mg base 1 (He.fAd K ("BadScene", some "__init__")) P_BadScene_init 1 (He.ga K "BadScene") ok_BadScene) (o_BadScript : OkE P w K mg base 1 (He.fAd K ("BadScript", some "__init__")) P_BadScript_init 1 (He.ga K "BadScript") ok_BadScript) (o_BadWalk : OkE P w K mg base 1 (He.fAd K ("BadWalk", some "__init__")) P_BadWalk_init 1 (He.ga K "BadWalk") ok_BadWalk) (o_BadWorld : OkE P w K mg base 1 (He.fAd K ("BadWorld", some "__init__")) P_BadWorld_init 1 (He.ga K "BadWorld") ok_BadWorld) (o_NotBare : OkE P w K mg base 1 (He.fAd K ("NotBare", some "__init__")) P_NotBare_init 1 (He.ga K "NotBare") ok_NotBare) {fd : FuncData} (F : FunD K "_law_numbered" "_law_numbered" (defArgs s__law_numbered) (defBody s__law_numbered) (defScope s__law_numbered) [] [] (He.fAd K ("_law_numbered", none)) fd) : FnG P w K mg base 3 (He.fAd K ("_law_numbered", none)) fd P__law_numbered (lift K P__law_numbered.length (sp__law_numbered K)) :=
  vfn 0 F sc__law_numbered (by decide) (fun _ _ _ _ _ _ hr tk hpo => ⟨_, v__law_numbered fx o_BadInputs o_BadSaying o_BadScene o_BadScript o_BadWalk o_BadWorld o_NotBare hr tk hpo, fun ts R XR h _ => plain__law_numbered ts R XR gx h⟩)
theorem ok__law_numbered (fx : Fx K mg) (gx : Gx K) (o_BadInputs : OkE P w K mg base 1 (He.fAd K ("BadInputs", some "__init__")) P_BadInputs_init 1 (He.ga K "BadInputs") ok_BadInputs) (o_BadSaying : OkE P w K mg base 1 (He.fAd K ("BadSaying", some "__init__")) P_BadSaying_init 1 (He.ga K "BadSaying") ok_BadSaying) (o_BadScene : OkE P w K mg base 1 (He.fAd K ("BadScene", some "__init__")) P_BadScene_init 1 (He.ga K "BadScene") ok_BadScene) (o_BadScript : OkE P w K mg base 1 (He.fAd K ("BadScript", some "__init__")) P_BadScript_init 1 (He.ga K "BadScript") ok_BadScript) (o_BadWalk : OkE P w K mg base 1 (He.fAd K ("BadWalk", some "__init__")) P_BadWalk_init 1 (He.ga K "BadWalk") ok_BadWalk) (o_BadWorld : OkE P w K mg base 1 (He.fAd K ("BadWorld", some "__init__")) P_BadWorld_init 1 (He.ga K "BadWorld") ok_BadWorld) (o_NotBare : OkE P w K mg base 1 (He.fAd K ("NotBare", some "__init__")) P_NotBare_init 1 (He.ga K "NotBare") ok_NotBare) {fd : FuncData} (F : FunD K "_law_numbered" "_law_numbered" (defArgs s__law_numbered) (defBody s__law_numbered) (defScope s__law_numbered) [] [] (He.fAd K ("_law_numbered", none)) fd) : OkF P w K mg base 3 (He.fAd K ("_law_numbered", none)) P__law_numbered (sp__law_numbered K) :=
  ⟨fd, fg__law_numbered fx gx o_BadInputs o_BadSaying o_BadScene o_BadScript o_BadWalk o_BadWorld o_NotBare F, F.bindsN fun _ _ _ _ _ _ us hl => match us, hl with | [_], _ => rfl⟩
theorem fg__law_named (fx : Fx K mg) (gx : Gx K) (o_BadName : OkE P w K mg base 1 (He.fAd K ("BadName", some "__init__")) P_BadName_init 1 (He.ga K "BadName") ok_BadName) (o_NoButton : OkE P w K mg base 1 (He.fAd K ("NoButton", some "__init__")) P_NoButton_init 1 (He.ga K "NoButton") ok_NoButton) (o_NoGuard : OkE P w K mg base 1 (He.fAd K ("NoGuard", some "__init__")) P_NoGuard_init 1 (He.ga K "NoGuard") ok_NoGuard) (o_NoMark : OkE P w K mg base 1 (He.fAd K ("NoMark", some "__init__")) P_NoMark_init 1 (He.ga K "NoMark") ok_NoMark) (o_NoRow : OkE P w K mg base 1 (He.fAd K ("NoRow", some "__init__")) P_NoRow_init 1 (He.ga K "NoRow") ok_NoRow) (o_NoThing : OkE P w K mg base 1 (He.fAd K ("NoThing", some "__init__")) P_NoThing_init 1 (He.ga K "NoThing") ok_NoThing) (o_Taken : OkE P w K mg base 1 (He.fAd K ("Taken", some "__init__")) P_Taken_init 1 (He.ga K "Taken") ok_Taken) {fd : FuncData} (F : FunD K "_law_named" "_law_named" (defArgs s__law_named) (defBody s__law_named) (defScope s__law_named) [] [] (He.fAd K ("_law_named", none)) fd) : FnG P w K mg base 3 (He.fAd K ("_law_named", none)) fd P__law_named (lift K P__law_named.length (sp__law_named K)) :=
  vfn 0 F sc__law_named (by decide) (fun _ _ _ _ _ _ hr tk hpo => ⟨_, v__law_named fx o_BadName o_NoButton o_NoGuard o_NoMark o_NoRow o_NoThing o_Taken hr tk hpo, fun ts R XR h _ => plain__law_named ts R XR gx h⟩)
theorem ok__law_named (fx : Fx K mg) (gx : Gx K) (o_BadName : OkE P w K mg base 1 (He.fAd K ("BadName", some "__init__")) P_BadName_init 1 (He.ga K "BadName") ok_BadName) (o_NoButton : OkE P w K mg base 1 (He.fAd K ("NoButton", some "__init__")) P_NoButton_init 1 (He.ga K "NoButton") ok_NoButton) (o_NoGuard : OkE P w K mg base 1 (He.fAd K ("NoGuard", some "__init__")) P_NoGuard_init 1 (He.ga K "NoGuard") ok_NoGuard) (o_NoMark : OkE P w K mg base 1 (He.fAd K ("NoMark", some "__init__")) P_NoMark_init 1 (He.ga K "NoMark") ok_NoMark) (o_NoRow : OkE P w K mg base 1 (He.fAd K ("NoRow", some "__init__")) P_NoRow_init 1 (He.ga K "NoRow") ok_NoRow) (o_NoThing : OkE P w K mg base 1 (He.fAd K ("NoThing", some "__init__")) P_NoThing_init 1 (He.ga K "NoThing") ok_NoThing) (o_Taken : OkE P w K mg base 1 (He.fAd K ("Taken", some "__init__")) P_Taken_init 1 (He.ga K "Taken") ok_Taken) {fd : FuncData} (F : FunD K "_law_named" "_law_named" (defArgs s__law_named) (defBody s__law_named) (defScope s__law_named) [] [] (He.fAd K ("_law_named", none)) fd) : OkF P w K mg base 3 (He.fAd K ("_law_named", none)) P__law_named (sp__law_named K) :=
  ⟨fd, fg__law_named fx gx o_BadName o_NoButton o_NoGuard o_NoMark o_NoRow o_NoThing o_Taken F, F.bindsN fun _ _ _ _ _ _ us hl => match us, hl with | [_], _ => rfl⟩
theorem fg__law_others_right (fx : Fx K mg) (gx : Gx K) (o__law_draw : OkF P w K mg base 1 (He.fAd K ("_law_draw", none)) P__law_draw (sp__law_draw K)) (o__law_is_one : OkF P w K mg base 2 (He.fAd K ("_law_is_one", none)) P__law_is_one (sp__law_is_one K)) (o__law_new_names : OkF P w K mg base 3 (He.fAd K ("_law_new_names", none)) P__law_new_names (sp__law_new_names K)) (o_Barred : OkE P w K mg base 1 (He.fAd K ("Barred", some "__init__")) P_Barred_init 1 (He.ga K "Barred") ok_Barred) (o_NoLots : OkE0 P w K mg base 1 (He.fAd K ("NoLots", some "__init__")) P_NoLots_init (He.ga K "NoLots")) (o_NothingToUndo : OkE0 P w K mg base 1 (He.fAd K ("NothingToUndo", some "__init__")) P_NothingToUndo_init (He.ga K "NothingToUndo")) (o_OtherScene : OkE0 P w K mg base 1 (He.fAd K ("OtherScene", some "__init__")) P_OtherScene_init (He.ga K "OtherScene")) (o_Unlike : OkE0 P w K mg base 1 (He.fAd K ("Unlike", some "__init__")) P_Unlike_init (He.ga K "Unlike")) {fd : FuncData} (F : FunD K "_law_others_right" "_law_others_right" (defArgs s__law_others_right) (defBody s__law_others_right) (defScope s__law_others_right) [] [] (He.fAd K ("_law_others_right", none)) fd) : FnG P w K mg base 4 (He.fAd K ("_law_others_right", none)) fd P__law_others_right (lift K P__law_others_right.length (sp__law_others_right K)) :=
  vfn 1 F sc__law_others_right (by decide) (fun _ _ _ _ _ _ hr tk hpo => ⟨_, v__law_others_right fx o__law_draw o__law_is_one o__law_new_names o_Barred o_NoLots o_NothingToUndo o_OtherScene o_Unlike hr tk hpo, fun ts R XR h _ => plain__law_others_right ts R XR gx h⟩)
theorem ok__law_others_right (fx : Fx K mg) (gx : Gx K) (o__law_draw : OkF P w K mg base 1 (He.fAd K ("_law_draw", none)) P__law_draw (sp__law_draw K)) (o__law_is_one : OkF P w K mg base 2 (He.fAd K ("_law_is_one", none)) P__law_is_one (sp__law_is_one K)) (o__law_new_names : OkF P w K mg base 3 (He.fAd K ("_law_new_names", none)) P__law_new_names (sp__law_new_names K)) (o_Barred : OkE P w K mg base 1 (He.fAd K ("Barred", some "__init__")) P_Barred_init 1 (He.ga K "Barred") ok_Barred) (o_NoLots : OkE0 P w K mg base 1 (He.fAd K ("NoLots", some "__init__")) P_NoLots_init (He.ga K "NoLots")) (o_NothingToUndo : OkE0 P w K mg base 1 (He.fAd K ("NothingToUndo", some "__init__")) P_NothingToUndo_init (He.ga K "NothingToUndo")) (o_OtherScene : OkE0 P w K mg base 1 (He.fAd K ("OtherScene", some "__init__")) P_OtherScene_init (He.ga K "OtherScene")) (o_Unlike : OkE0 P w K mg base 1 (He.fAd K ("Unlike", some "__init__")) P_Unlike_init (He.ga K "Unlike")) {fd : FuncData} (F : FunD K "_law_others_right" "_law_others_right" (defArgs s__law_others_right) (defBody s__law_others_right) (defScope s__law_others_right) [] [] (He.fAd K ("_law_others_right", none)) fd) : OkF P w K mg base 4 (He.fAd K ("_law_others_right", none)) P__law_others_right (sp__law_others_right K) :=
  ⟨fd, fg__law_others_right fx gx o__law_draw o__law_is_one o__law_new_names o_Barred o_NoLots o_NothingToUndo o_OtherScene o_Unlike F, F.bindsN fun _ _ _ _ _ _ us hl => match us, hl with | [_], _ => rfl⟩
theorem fg_law (fx : Fx K mg) (gx : Gx K) (o__law_begun_pen : OkF P w K mg base 1 (He.fAd K ("_law_begun_pen", none)) P__law_begun_pen (sp__law_begun_pen K)) (o__law_draw : OkF P w K mg base 1 (He.fAd K ("_law_draw", none)) P__law_draw (sp__law_draw K)) (o__law_is_one : OkF P w K mg base 2 (He.fAd K ("_law_is_one", none)) P__law_is_one (sp__law_is_one K)) (o__law_named : OkF P w K mg base 3 (He.fAd K ("_law_named", none)) P__law_named (sp__law_named K)) (o__law_new_names : OkF P w K mg base 3 (He.fAd K ("_law_new_names", none)) P__law_new_names (sp__law_new_names K)) (o__law_numbered : OkF P w K mg base 3 (He.fAd K ("_law_numbered", none)) P__law_numbered (sp__law_numbered K)) (o__law_others_right : OkF P w K mg base 4 (He.fAd K ("_law_others_right", none)) P__law_others_right (sp__law_others_right K)) {fd : FuncData} (F : FunD K "law" "law" (defArgs s_law) (defBody s_law) (defScope s_law) [] [] (He.fAd K ("law", none)) fd) : FnG P w K mg base 5 (He.fAd K ("law", none)) fd P_law (lift K P_law.length (sp_law K)) :=
  vfn 0 F sc_law (by decide) (fun _ _ _ _ _ _ hr tk hpo => ⟨_, v_law fx o__law_begun_pen o__law_draw o__law_is_one o__law_named o__law_new_names o__law_numbered o__law_others_right hr tk hpo, fun ts R XR h _ => plain_law ts R XR  h⟩)
theorem ok_law (fx : Fx K mg) (gx : Gx K) (o__law_begun_pen : OkF P w K mg base 1 (He.fAd K ("_law_begun_pen", none)) P__law_begun_pen (sp__law_begun_pen K)) (o__law_draw : OkF P w K mg base 1 (He.fAd K ("_law_draw", none)) P__law_draw (sp__law_draw K)) (o__law_is_one : OkF P w K mg base 2 (He.fAd K ("_law_is_one", none)) P__law_is_one (sp__law_is_one K)) (o__law_named : OkF P w K mg base 3 (He.fAd K ("_law_named", none)) P__law_named (sp__law_named K)) (o__law_new_names : OkF P w K mg base 3 (He.fAd K ("_law_new_names", none)) P__law_new_names (sp__law_new_names K)) (o__law_numbered : OkF P w K mg base 3 (He.fAd K ("_law_numbered", none)) P__law_numbered (sp__law_numbered K)) (o__law_others_right : OkF P w K mg base 4 (He.fAd K ("_law_others_right", none)) P__law_others_right (sp__law_others_right K)) {fd : FuncData} (F : FunD K "law" "law" (defArgs s_law) (defBody s_law) (defScope s_law) [] [] (He.fAd K ("law", none)) fd) : OkF P w K mg base 5 (He.fAd K ("law", none)) P_law (sp_law K) :=
  ⟨fd, fg_law fx gx o__law_begun_pen o__law_draw o__law_is_one o__law_named o__law_new_names o__law_numbered o__law_others_right F, F.bindsN fun _ _ _ _ _ _ us hl => match us, hl with | [_], _ => rfl⟩
theorem ok_BadScene_init (hno : PySem.W.findIn K (.ref (He.ga K "BadScene")) "line" = some none) {fd : FuncData} (F : SupF P K mg "BadScene.__init__" (defArgs s_BadScene_init) (defBody s_BadScene_init) (defScope s_BadScene_init) (He.ga K "BadScene") (He.fAd K ("BadScene", some "__init__")) fd) (hp : PlainX "BadScene.__init__" s_BadScene_init fd) : OkE P w K mg base 1 (He.fAd K ("BadScene", some "__init__")) P_BadScene_init 1 (He.ga K "BadScene") ok_BadScene :=
  ⟨fd, oe_BadScene F hno, hp.binds fun _ _ _ _ _ _ _ us hl => match us, hl with | [_, _], _ => rfl⟩
theorem ok_BadWorld_init (hno : PySem.W.findIn K (.ref (He.ga K "BadWorld")) "line" = some none) {fd : FuncData} (F : SupF P K mg "BadWorld.__init__" (defArgs s_BadWorld_init) (defBody s_BadWorld_init) (defScope s_BadWorld_init) (He.ga K "BadWorld") (He.fAd K ("BadWorld", some "__init__")) fd) (hp : PlainX "BadWorld.__init__" s_BadWorld_init fd) : OkE P w K mg base 1 (He.fAd K ("BadWorld", some "__init__")) P_BadWorld_init 1 (He.ga K "BadWorld") ok_BadWorld :=
  ⟨fd, oe_BadWorld F hno, hp.binds fun _ _ _ _ _ _ _ us hl => match us, hl with | [_, _], _ => rfl⟩
theorem ok_BadScript_init (hno : PySem.W.findIn K (.ref (He.ga K "BadScript")) "line" = some none) {fd : FuncData} (F : SupF P K mg "BadScript.__init__" (defArgs s_BadScript_init) (defBody s_BadScript_init) (defScope s_BadScript_init) (He.ga K "BadScript") (He.fAd K ("BadScript", some "__init__")) fd) (hp : PlainX "BadScript.__init__" s_BadScript_init fd) : OkE P w K mg base 1 (He.fAd K ("BadScript", some "__init__")) P_BadScript_init 1 (He.ga K "BadScript") ok_BadScript :=
  ⟨fd, oe_BadScript F hno, hp.binds fun _ _ _ _ _ _ _ us hl => match us, hl with | [_, _], _ => rfl⟩
theorem ok_BadSaying_init (hno : PySem.W.findIn K (.ref (He.ga K "BadSaying")) "index" = some none) {fd : FuncData} (F : SupF P K mg "BadSaying.__init__" (defArgs s_BadSaying_init) (defBody s_BadSaying_init) (defScope s_BadSaying_init) (He.ga K "BadSaying") (He.fAd K ("BadSaying", some "__init__")) fd) (hp : PlainX "BadSaying.__init__" s_BadSaying_init fd) : OkE P w K mg base 1 (He.fAd K ("BadSaying", some "__init__")) P_BadSaying_init 1 (He.ga K "BadSaying") ok_BadSaying :=
  ⟨fd, oe_BadSaying F hno, hp.binds fun _ _ _ _ _ _ _ us hl => match us, hl with | [_, _], _ => rfl⟩
theorem ok_BadWalk_init (hno : PySem.W.findIn K (.ref (He.ga K "BadWalk")) "index" = some none) {fd : FuncData} (F : SupF P K mg "BadWalk.__init__" (defArgs s_BadWalk_init) (defBody s_BadWalk_init) (defScope s_BadWalk_init) (He.ga K "BadWalk") (He.fAd K ("BadWalk", some "__init__")) fd) (hp : PlainX "BadWalk.__init__" s_BadWalk_init fd) : OkE P w K mg base 1 (He.fAd K ("BadWalk", some "__init__")) P_BadWalk_init 1 (He.ga K "BadWalk") ok_BadWalk :=
  ⟨fd, oe_BadWalk F hno, hp.binds fun _ _ _ _ _ _ _ us hl => match us, hl with | [_, _], _ => rfl⟩
theorem ok_NoThing_init (hno : PySem.W.findIn K (.ref (He.ga K "NoThing")) "name" = some none) {fd : FuncData} (F : SupF P K mg "NoThing.__init__" (defArgs s_NoThing_init) (defBody s_NoThing_init) (defScope s_NoThing_init) (He.ga K "NoThing") (He.fAd K ("NoThing", some "__init__")) fd) (hp : PlainX "NoThing.__init__" s_NoThing_init fd) : OkE P w K mg base 1 (He.fAd K ("NoThing", some "__init__")) P_NoThing_init 1 (He.ga K "NoThing") ok_NoThing :=
  ⟨fd, oe_NoThing F hno, hp.binds fun _ _ _ _ _ _ _ us hl => match us, hl with | [_, _], _ => rfl⟩
theorem ok_NoRow_init (hno : PySem.W.findIn K (.ref (He.ga K "NoRow")) "name" = some none) {fd : FuncData} (F : SupF P K mg "NoRow.__init__" (defArgs s_NoRow_init) (defBody s_NoRow_init) (defScope s_NoRow_init) (He.ga K "NoRow") (He.fAd K ("NoRow", some "__init__")) fd) (hp : PlainX "NoRow.__init__" s_NoRow_init fd) : OkE P w K mg base 1 (He.fAd K ("NoRow", some "__init__")) P_NoRow_init 1 (He.ga K "NoRow") ok_NoRow :=
  ⟨fd, oe_NoRow F hno, hp.binds fun _ _ _ _ _ _ _ us hl => match us, hl with | [_, _], _ => rfl⟩
theorem ok_NoMark_init (hno : PySem.W.findIn K (.ref (He.ga K "NoMark")) "name" = some none) {fd : FuncData} (F : SupF P K mg "NoMark.__init__" (defArgs s_NoMark_init) (defBody s_NoMark_init) (defScope s_NoMark_init) (He.ga K "NoMark") (He.fAd K ("NoMark", some "__init__")) fd) (hp : PlainX "NoMark.__init__" s_NoMark_init fd) : OkE P w K mg base 1 (He.fAd K ("NoMark", some "__init__")) P_NoMark_init 1 (He.ga K "NoMark") ok_NoMark :=
  ⟨fd, oe_NoMark F hno, hp.binds fun _ _ _ _ _ _ _ us hl => match us, hl with | [_, _], _ => rfl⟩
theorem ok_NoLots_init {fd : FuncData} (F : SupF P K mg "NoLots.__init__" (defArgs s_NoLots_init) (defBody s_NoLots_init) (defScope s_NoLots_init) (He.ga K "NoLots") (He.fAd K ("NoLots", some "__init__")) fd) (hp : PlainX "NoLots.__init__" s_NoLots_init fd) : OkE0 P w K mg base 1 (He.fAd K ("NoLots", some "__init__")) P_NoLots_init (He.ga K "NoLots") :=
  ⟨fd, oe_NoLots F, hp.binds fun _ _ _ _ _ _ _ us hl => match us, hl with | [_], _ => rfl⟩
theorem ok_BadInputs_init (hno : PySem.W.findIn K (.ref (He.ga K "BadInputs")) "index" = some none) {fd : FuncData} (F : SupF P K mg "BadInputs.__init__" (defArgs s_BadInputs_init) (defBody s_BadInputs_init) (defScope s_BadInputs_init) (He.ga K "BadInputs") (He.fAd K ("BadInputs", some "__init__")) fd) (hp : PlainX "BadInputs.__init__" s_BadInputs_init fd) : OkE P w K mg base 1 (He.fAd K ("BadInputs", some "__init__")) P_BadInputs_init 1 (He.ga K "BadInputs") ok_BadInputs :=
  ⟨fd, oe_BadInputs F hno, hp.binds fun _ _ _ _ _ _ _ us hl => match us, hl with | [_, _], _ => rfl⟩
theorem ok_OtherScene_init {fd : FuncData} (F : SupF P K mg "OtherScene.__init__" (defArgs s_OtherScene_init) (defBody s_OtherScene_init) (defScope s_OtherScene_init) (He.ga K "OtherScene") (He.fAd K ("OtherScene", some "__init__")) fd) (hp : PlainX "OtherScene.__init__" s_OtherScene_init fd) : OkE0 P w K mg base 1 (He.fAd K ("OtherScene", some "__init__")) P_OtherScene_init (He.ga K "OtherScene") :=
  ⟨fd, oe_OtherScene F, hp.binds fun _ _ _ _ _ _ _ us hl => match us, hl with | [_], _ => rfl⟩
theorem ok_Unlike_init {fd : FuncData} (F : SupF P K mg "Unlike.__init__" (defArgs s_Unlike_init) (defBody s_Unlike_init) (defScope s_Unlike_init) (He.ga K "Unlike") (He.fAd K ("Unlike", some "__init__")) fd) (hp : PlainX "Unlike.__init__" s_Unlike_init fd) : OkE0 P w K mg base 1 (He.fAd K ("Unlike", some "__init__")) P_Unlike_init (He.ga K "Unlike") :=
  ⟨fd, oe_Unlike F, hp.binds fun _ _ _ _ _ _ _ us hl => match us, hl with | [_], _ => rfl⟩
theorem ok_NotBare_init (hno : PySem.W.findIn K (.ref (He.ga K "NotBare")) "index" = some none) {fd : FuncData} (F : SupF P K mg "NotBare.__init__" (defArgs s_NotBare_init) (defBody s_NotBare_init) (defScope s_NotBare_init) (He.ga K "NotBare") (He.fAd K ("NotBare", some "__init__")) fd) (hp : PlainX "NotBare.__init__" s_NotBare_init fd) : OkE P w K mg base 1 (He.fAd K ("NotBare", some "__init__")) P_NotBare_init 1 (He.ga K "NotBare") ok_NotBare :=
  ⟨fd, oe_NotBare F hno, hp.binds fun _ _ _ _ _ _ _ us hl => match us, hl with | [_, _], _ => rfl⟩
theorem ok_BadName_init (hno : PySem.W.findIn K (.ref (He.ga K "BadName")) "name" = some none) {fd : FuncData} (F : SupF P K mg "BadName.__init__" (defArgs s_BadName_init) (defBody s_BadName_init) (defScope s_BadName_init) (He.ga K "BadName") (He.fAd K ("BadName", some "__init__")) fd) (hp : PlainX "BadName.__init__" s_BadName_init fd) : OkE P w K mg base 1 (He.fAd K ("BadName", some "__init__")) P_BadName_init 1 (He.ga K "BadName") ok_BadName :=
  ⟨fd, oe_BadName F hno, hp.binds fun _ _ _ _ _ _ _ us hl => match us, hl with | [_, _], _ => rfl⟩
theorem ok_NoButton_init (hno : PySem.W.findIn K (.ref (He.ga K "NoButton")) "name" = some none) {fd : FuncData} (F : SupF P K mg "NoButton.__init__" (defArgs s_NoButton_init) (defBody s_NoButton_init) (defScope s_NoButton_init) (He.ga K "NoButton") (He.fAd K ("NoButton", some "__init__")) fd) (hp : PlainX "NoButton.__init__" s_NoButton_init fd) : OkE P w K mg base 1 (He.fAd K ("NoButton", some "__init__")) P_NoButton_init 1 (He.ga K "NoButton") ok_NoButton :=
  ⟨fd, oe_NoButton F hno, hp.binds fun _ _ _ _ _ _ _ us hl => match us, hl with | [_, _], _ => rfl⟩
theorem ok_Taken_init (hno : PySem.W.findIn K (.ref (He.ga K "Taken")) "name" = some none) {fd : FuncData} (F : SupF P K mg "Taken.__init__" (defArgs s_Taken_init) (defBody s_Taken_init) (defScope s_Taken_init) (He.ga K "Taken") (He.fAd K ("Taken", some "__init__")) fd) (hp : PlainX "Taken.__init__" s_Taken_init fd) : OkE P w K mg base 1 (He.fAd K ("Taken", some "__init__")) P_Taken_init 1 (He.ga K "Taken") ok_Taken :=
  ⟨fd, oe_Taken F hno, hp.binds fun _ _ _ _ _ _ _ us hl => match us, hl with | [_, _], _ => rfl⟩
theorem ok_NoGuard_init (hno : PySem.W.findIn K (.ref (He.ga K "NoGuard")) "name" = some none) {fd : FuncData} (F : SupF P K mg "NoGuard.__init__" (defArgs s_NoGuard_init) (defBody s_NoGuard_init) (defScope s_NoGuard_init) (He.ga K "NoGuard") (He.fAd K ("NoGuard", some "__init__")) fd) (hp : PlainX "NoGuard.__init__" s_NoGuard_init fd) : OkE P w K mg base 1 (He.fAd K ("NoGuard", some "__init__")) P_NoGuard_init 1 (He.ga K "NoGuard") ok_NoGuard :=
  ⟨fd, oe_NoGuard F hno, hp.binds fun _ _ _ _ _ _ _ us hl => match us, hl with | [_, _], _ => rfl⟩
theorem ok_Barred_init (b_len : mg "len" = none) (b_list : mg "list" = none) (hno : PySem.W.findIn K (.ref (He.ga K "Barred")) "names" = some none) {fd : FuncData} (F : SupF P K mg "Barred.__init__" (defArgs s_Barred_init) (defBody s_Barred_init) (defScope s_Barred_init) (He.ga K "Barred") (He.fAd K ("Barred", some "__init__")) fd) (hp : PlainX "Barred.__init__" s_Barred_init fd) : OkE P w K mg base 1 (He.fAd K ("Barred", some "__init__")) P_Barred_init 1 (He.ga K "Barred") ok_Barred :=
  ⟨fd, oe_Barred b_len b_list F hno, hp.binds fun _ _ _ _ _ _ _ us hl => match us, hl with | [_, _], _ => rfl⟩
theorem ok_NothingToUndo_init {fd : FuncData} (F : SupF P K mg "NothingToUndo.__init__" (defArgs s_NothingToUndo_init) (defBody s_NothingToUndo_init) (defScope s_NothingToUndo_init) (He.ga K "NothingToUndo") (He.fAd K ("NothingToUndo", some "__init__")) fd) (hp : PlainX "NothingToUndo.__init__" s_NothingToUndo_init fd) : OkE0 P w K mg base 1 (He.fAd K ("NothingToUndo", some "__init__")) P_NothingToUndo_init (He.ga K "NothingToUndo") :=
  ⟨fd, oe_NothingToUndo F, hp.binds fun _ _ _ _ _ _ _ us hl => match us, hl with | [_], _ => rfl⟩
end
end K18
set_option Elab.async false
set_option linter.all false
set_option autoImplicit false
set_option maxRecDepth 100000
set_option maxHeartbeats 0
namespace K18
open PySem PySem.Spec PySem.Calls L2 VL
open PyProof.Rows hiding St
def d__law_begun_pen : He.DefD := ⟨("_law_begun_pen", none), "_law_begun_pen", "_law_begun_pen", defArgs s__law_begun_pen, defBody s__law_begun_pen, defScope s__law_begun_pen, [], []⟩
def d__law_draw : He.DefD := ⟨("_law_draw", none), "_law_draw", "_law_draw", defArgs s__law_draw, defBody s__law_draw, defScope s__law_draw, [], []⟩
def d__law_shuffled : He.DefD := ⟨("_law_shuffled", none), "_law_shuffled", "_law_shuffled", defArgs s__law_shuffled, defBody s__law_shuffled, defScope s__law_shuffled, [], []⟩
def d__law_new_names : He.DefD := ⟨("_law_new_names", none), "_law_new_names", "_law_new_names", defArgs s__law_new_names, defBody s__law_new_names, defScope s__law_new_names, [], []⟩
def d__law_classes : He.DefD := ⟨("_law_classes", none), "_law_classes", "_law_classes", defArgs s__law_classes, defBody s__law_classes, defScope s__law_classes, [], []⟩
def d__law_is_one : He.DefD := ⟨("_law_is_one", none), "_law_is_one", "_law_is_one", defArgs s__law_is_one, defBody s__law_is_one, defScope s__law_is_one, [], []⟩
def d__law_numbered : He.DefD := ⟨("_law_numbered", none), "_law_numbered", "_law_numbered", defArgs s__law_numbered, defBody s__law_numbered, defScope s__law_numbered, [], []⟩
def d__law_named : He.DefD := ⟨("_law_named", none), "_law_named", "_law_named", defArgs s__law_named, defBody s__law_named, defScope s__law_named, [], []⟩
def d__law_others_right : He.DefD := ⟨("_law_others_right", none), "_law_others_right", "_law_others_right", defArgs s__law_others_right, defBody s__law_others_right, defScope s__law_others_right, [], []⟩
def d_law : He.DefD := ⟨("law", none), "law", "law", defArgs s_law, defBody s_law, defScope s_law, [], []⟩
def fnD : List He.DefD := [d__law_begun_pen, d__law_draw, d__law_shuffled, d__law_new_names, d__law_classes, d__law_is_one, d__law_numbered, d__law_named, d__law_others_right, d_law]
def fsD : List SupD := [⟨"BadScene", "BadScene.__init__", s_BadScene_init⟩, ⟨"BadWorld", "BadWorld.__init__", s_BadWorld_init⟩, ⟨"BadScript", "BadScript.__init__", s_BadScript_init⟩, ⟨"BadSaying", "BadSaying.__init__", s_BadSaying_init⟩, ⟨"BadWalk", "BadWalk.__init__", s_BadWalk_init⟩, ⟨"NoThing", "NoThing.__init__", s_NoThing_init⟩, ⟨"NoRow", "NoRow.__init__", s_NoRow_init⟩, ⟨"NoMark", "NoMark.__init__", s_NoMark_init⟩, ⟨"NoLots", "NoLots.__init__", s_NoLots_init⟩, ⟨"BadInputs", "BadInputs.__init__", s_BadInputs_init⟩, ⟨"OtherScene", "OtherScene.__init__", s_OtherScene_init⟩, ⟨"Unlike", "Unlike.__init__", s_Unlike_init⟩, ⟨"NotBare", "NotBare.__init__", s_NotBare_init⟩, ⟨"BadName", "BadName.__init__", s_BadName_init⟩, ⟨"NoButton", "NoButton.__init__", s_NoButton_init⟩, ⟨"Taken", "Taken.__init__", s_Taken_init⟩, ⟨"NoGuard", "NoGuard.__init__", s_NoGuard_init⟩, ⟨"Barred", "Barred.__init__", s_Barred_init⟩, ⟨"NothingToUndo", "NothingToUndo.__init__", s_NothingToUndo_init⟩]
def faD : List He.Fa := [.glo "_law_begun_pen", .keep "_law_begun_pen", .glo "_law_draw", .keep "_law_draw", .glo "_law_shuffled", .keep "_law_shuffled", .glo "_law_new_names", .keep "_law_new_names", .glo "_law_classes", .keep "_law_classes", .glo "_law_is_one", .keep "_law_is_one", .glo "_law_numbered", .keep "_law_numbered", .glo "_law_named", .keep "_law_named", .glo "_law_others_right", .keep "_law_others_right", .glo "law", .keep "law", .glo "SeatError", .glo "BadScene", .glo "BadWorld", .glo "BadScript", .glo "BadSaying", .glo "BadWalk", .glo "NoThing", .glo "NoRow", .glo "NoMark", .glo "NoLots", .glo "BadInputs", .glo "OtherScene", .glo "Unlike", .glo "NotBare", .glo "BadName", .glo "NoButton", .glo "Taken", .glo "NoGuard", .glo "Barred", .glo "NothingToUndo"] ++ ([.free "ValueError", .free "abs", .free "int", .free "isinstance", .free "len", .free "list", .free "range", .free "repr"] : List He.Fa)
def exD (K : PySem.W.Frag) : Bool := (xcB K (He.ga K "BadScene") (He.fAd K ("BadScene", some "__init__"))) && ((xcB K (He.ga K "BadWorld") (He.fAd K ("BadWorld", some "__init__"))) && ((xcB K (He.ga K "BadScript") (He.fAd K ("BadScript", some "__init__"))) && ((xcB K (He.ga K "BadSaying") (He.fAd K ("BadSaying", some "__init__"))) && ((xcB K (He.ga K "BadWalk") (He.fAd K ("BadWalk", some "__init__"))) && ((xcB K (He.ga K "NoThing") (He.fAd K ("NoThing", some "__init__"))) && ((xcB K (He.ga K "NoRow") (He.fAd K ("NoRow", some "__init__"))) && ((xcB K (He.ga K "NoMark") (He.fAd K ("NoMark", some "__init__"))) && ((xcB K (He.ga K "NoLots") (He.fAd K ("NoLots", some "__init__"))) && ((xcB K (He.ga K "BadInputs") (He.fAd K ("BadInputs", some "__init__"))) && ((xcB K (He.ga K "OtherScene") (He.fAd K ("OtherScene", some "__init__"))) && ((xcB K (He.ga K "Unlike") (He.fAd K ("Unlike", some "__init__"))) && ((xcB K (He.ga K "NotBare") (He.fAd K ("NotBare", some "__init__"))) && ((xcB K (He.ga K "BadName") (He.fAd K ("BadName", some "__init__"))) && ((xcB K (He.ga K "NoButton") (He.fAd K ("NoButton", some "__init__"))) && ((xcB K (He.ga K "Taken") (He.fAd K ("Taken", some "__init__"))) && ((xcB K (He.ga K "NoGuard") (He.fAd K ("NoGuard", some "__init__"))) && ((xcB K (He.ga K "Barred") (He.fAd K ("Barred", some "__init__"))) && ((xcB K (He.ga K "NothingToUndo") (He.fAd K ("NothingToUndo", some "__init__"))) && ((exN.all fun x => excB K (He.ga K x)) && ((exN.all fun x => exN.all fun y => boolB (PySem.W.kitOne K (.ref (He.ga K x)) (.ref (He.ga K y))) (decide (x = y))) && ((exN.all fun x => boolB (PySem.W.kitOne K (.ref (He.ga K x)) (.ref (He.ga K "SeatError"))) true && boolB (PySem.W.kitOne K (.ref (He.ga K x)) (.type "ValueError")) true) && ((exN.all fun x => foundB K (He.ga K x) "line" none) && ((exN.all fun x => foundB K (He.ga K x) "index" none) && ((exN.all fun x => foundB K (He.ga K x) "name" none) && ((exN.all fun x => foundB K (He.ga K x) "names" none))))))))))))))))))))))))))
abbrev P0 : Program := PySem.Challenge.pw_seatedtwice_k18_errors
abbrev SaysX (K : PySem.W.Frag) : Prop := obsX P0.main.file faD fnD fsD exD K = valX fnD fsD
section
variable {w : World} {K : PySem.W.Frag} {mg : Str → Option Value} {base h : Heap}
theorem facts_of (X : K.In h) (G : h.Ns mainGlobals mg) (c : SaysX K) : Fx K mg ∧ Gx K := by
  have z : exD K = true := restX c
  unfold exD at z
  obtain ⟨e1, z⟩ := He.ba z
  obtain ⟨e2, z⟩ := He.ba z
  obtain ⟨e3, z⟩ := He.ba z
  obtain ⟨e4, z⟩ := He.ba z
  obtain ⟨e5, z⟩ := He.ba z
  obtain ⟨e6, z⟩ := He.ba z
  obtain ⟨e7, z⟩ := He.ba z
  obtain ⟨e8, z⟩ := He.ba z
  obtain ⟨e9, z⟩ := He.ba z
  obtain ⟨e10, z⟩ := He.ba z
  obtain ⟨e11, z⟩ := He.ba z
  obtain ⟨e12, z⟩ := He.ba z
  obtain ⟨e13, z⟩ := He.ba z
  obtain ⟨e14, z⟩ := He.ba z
  obtain ⟨e15, z⟩ := He.ba z
  obtain ⟨e16, z⟩ := He.ba z
  obtain ⟨e17, z⟩ := He.ba z
  obtain ⟨e18, z⟩ := He.ba z
  obtain ⟨e19, z⟩ := He.ba z
  obtain ⟨e20, z⟩ := He.ba z
  obtain ⟨e21, z⟩ := He.ba z
  obtain ⟨e22, z⟩ := He.ba z
  obtain ⟨e23, z⟩ := He.ba z
  obtain ⟨e24, z⟩ := He.ba z
  obtain ⟨e25, z⟩ := He.ba z
  have e26 := z
  exact ⟨{
    x_BadScene := xcB_ok e1
    x_BadWorld := xcB_ok e2
    x_BadScript := xcB_ok e3
    x_BadSaying := xcB_ok e4
    x_BadWalk := xcB_ok e5
    x_NoThing := xcB_ok e6
    x_NoRow := xcB_ok e7
    x_NoMark := xcB_ok e8
    x_NoLots := xcB_ok e9
    x_BadInputs := xcB_ok e10
    x_OtherScene := xcB_ok e11
    x_Unlike := xcB_ok e12
    x_NotBare := xcB_ok e13
    x_BadName := xcB_ok e14
    x_NoButton := xcB_ok e15
    x_Taken := xcB_ok e16
    x_NoGuard := xcB_ok e17
    x_Barred := xcB_ok e18
    x_NothingToUndo := xcB_ok e19
    g__law_begun_pen := He.glo_ok X G (factX c 0 rfl)
    k__law_begun_pen := He.keep_ok (factX c 1 rfl)
    g__law_draw := He.glo_ok X G (factX c 2 rfl)
    k__law_draw := He.keep_ok (factX c 3 rfl)
    g__law_shuffled := He.glo_ok X G (factX c 4 rfl)
    k__law_shuffled := He.keep_ok (factX c 5 rfl)
    g__law_new_names := He.glo_ok X G (factX c 6 rfl)
    k__law_new_names := He.keep_ok (factX c 7 rfl)
    g__law_classes := He.glo_ok X G (factX c 8 rfl)
    k__law_classes := He.keep_ok (factX c 9 rfl)
    g__law_is_one := He.glo_ok X G (factX c 10 rfl)
    k__law_is_one := He.keep_ok (factX c 11 rfl)
    g__law_numbered := He.glo_ok X G (factX c 12 rfl)
    k__law_numbered := He.keep_ok (factX c 13 rfl)
    g__law_named := He.glo_ok X G (factX c 14 rfl)
    k__law_named := He.keep_ok (factX c 15 rfl)
    g__law_others_right := He.glo_ok X G (factX c 16 rfl)
    k__law_others_right := He.keep_ok (factX c 17 rfl)
    g_law := He.glo_ok X G (factX c 18 rfl)
    k_law := He.keep_ok (factX c 19 rfl)
    g_SeatError := He.glo_ok X G (factX c 20 rfl)
    g_BadScene := He.glo_ok X G (factX c 21 rfl)
    g_BadWorld := He.glo_ok X G (factX c 22 rfl)
    g_BadScript := He.glo_ok X G (factX c 23 rfl)
    g_BadSaying := He.glo_ok X G (factX c 24 rfl)
    g_BadWalk := He.glo_ok X G (factX c 25 rfl)
    g_NoThing := He.glo_ok X G (factX c 26 rfl)
    g_NoRow := He.glo_ok X G (factX c 27 rfl)
    g_NoMark := He.glo_ok X G (factX c 28 rfl)
    g_NoLots := He.glo_ok X G (factX c 29 rfl)
    g_BadInputs := He.glo_ok X G (factX c 30 rfl)
    g_OtherScene := He.glo_ok X G (factX c 31 rfl)
    g_Unlike := He.glo_ok X G (factX c 32 rfl)
    g_NotBare := He.glo_ok X G (factX c 33 rfl)
    g_BadName := He.glo_ok X G (factX c 34 rfl)
    g_NoButton := He.glo_ok X G (factX c 35 rfl)
    g_Taken := He.glo_ok X G (factX c 36 rfl)
    g_NoGuard := He.glo_ok X G (factX c 37 rfl)
    g_Barred := He.glo_ok X G (factX c 38 rfl)
    g_NothingToUndo := He.glo_ok X G (factX c 39 rfl)
    b_ValueError := He.free_ok X G (factX c 40 rfl)
    b_abs := He.free_ok X G (factX c 41 rfl)
    b_int := He.free_ok X G (factX c 42 rfl)
    b_isinstance := He.free_ok X G (factX c 43 rfl)
    b_len := He.free_ok X G (factX c 44 rfl)
    b_list := He.free_ok X G (factX c 45 rfl)
    b_range := He.free_ok X G (factX c 46 rfl)
    b_repr := He.free_ok X G (factX c 47 rfl) }, {
    exc := fun x hx => excB_ok (List.all_eq_true.1 e20 x hx)
    kit := fun x hx y hy => of_decide_eq_true (List.all_eq_true.1 (List.all_eq_true.1 e21 x hx) y hy)
    kitS := fun x hx => ⟨of_decide_eq_true (He.ba (List.all_eq_true.1 e22 x hx)).1, of_decide_eq_true (He.ba (List.all_eq_true.1 e22 x hx)).2⟩
    nf_line := fun x hx => foundB_ok (List.all_eq_true.1 e23 x hx)
    nf_index := fun x hx => foundB_ok (List.all_eq_true.1 e24 x hx)
    nf_name := fun x hx => foundB_ok (List.all_eq_true.1 e25 x hx)
    nf_names := fun x hx => foundB_ok (List.all_eq_true.1 e26 x hx) }⟩
theorem law_kept (X : K.In h) (G : h.Ns mainGlobals mg) (c : SaysX K) {fd : FuncData} (F : FunD K "law" "law" (defArgs s_law) (defBody s_law) (defScope s_law) [] [] (He.fAd K ("law", none)) fd) : FnG P0 w K mg base 5 (He.fAd K ("law", none)) fd P_law (lift K 1 (sp_law K)) := by
  obtain ⟨fx, gx⟩ := facts_of X G c
  obtain ⟨fd_BadScene_init, F_BadScene_init, p_BadScene_init⟩ := supX (P := P0) c X G rfl 0 rfl
  have o_BadScene : OkE P0 w K mg base 1 (He.fAd K ("BadScene", some "__init__")) P_BadScene_init 1 (He.ga K "BadScene") ok_BadScene := ok_BadScene_init (gx.nf_line _ (by decide)) F_BadScene_init p_BadScene_init
  obtain ⟨fd_BadWorld_init, F_BadWorld_init, p_BadWorld_init⟩ := supX (P := P0) c X G rfl 1 rfl
  have o_BadWorld : OkE P0 w K mg base 1 (He.fAd K ("BadWorld", some "__init__")) P_BadWorld_init 1 (He.ga K "BadWorld") ok_BadWorld := ok_BadWorld_init (gx.nf_line _ (by decide)) F_BadWorld_init p_BadWorld_init
  obtain ⟨fd_BadScript_init, F_BadScript_init, p_BadScript_init⟩ := supX (P := P0) c X G rfl 2 rfl
  have o_BadScript : OkE P0 w K mg base 1 (He.fAd K ("BadScript", some "__init__")) P_BadScript_init 1 (He.ga K "BadScript") ok_BadScript := ok_BadScript_init (gx.nf_line _ (by decide)) F_BadScript_init p_BadScript_init
  obtain ⟨fd_BadSaying_init, F_BadSaying_init, p_BadSaying_init⟩ := supX (P := P0) c X G rfl 3 rfl
  have o_BadSaying : OkE P0 w K mg base 1 (He.fAd K ("BadSaying", some "__init__")) P_BadSaying_init 1 (He.ga K "BadSaying") ok_BadSaying := ok_BadSaying_init (gx.nf_index _ (by decide)) F_BadSaying_init p_BadSaying_init
  obtain ⟨fd_BadWalk_init, F_BadWalk_init, p_BadWalk_init⟩ := supX (P := P0) c X G rfl 4 rfl
  have o_BadWalk : OkE P0 w K mg base 1 (He.fAd K ("BadWalk", some "__init__")) P_BadWalk_init 1 (He.ga K "BadWalk") ok_BadWalk := ok_BadWalk_init (gx.nf_index _ (by decide)) F_BadWalk_init p_BadWalk_init
  obtain ⟨fd_NoThing_init, F_NoThing_init, p_NoThing_init⟩ := supX (P := P0) c X G rfl 5 rfl
  have o_NoThing : OkE P0 w K mg base 1 (He.fAd K ("NoThing", some "__init__")) P_NoThing_init 1 (He.ga K "NoThing") ok_NoThing := ok_NoThing_init (gx.nf_name _ (by decide)) F_NoThing_init p_NoThing_init
  obtain ⟨fd_NoRow_init, F_NoRow_init, p_NoRow_init⟩ := supX (P := P0) c X G rfl 6 rfl
  have o_NoRow : OkE P0 w K mg base 1 (He.fAd K ("NoRow", some "__init__")) P_NoRow_init 1 (He.ga K "NoRow") ok_NoRow := ok_NoRow_init (gx.nf_name _ (by decide)) F_NoRow_init p_NoRow_init
  obtain ⟨fd_NoMark_init, F_NoMark_init, p_NoMark_init⟩ := supX (P := P0) c X G rfl 7 rfl
  have o_NoMark : OkE P0 w K mg base 1 (He.fAd K ("NoMark", some "__init__")) P_NoMark_init 1 (He.ga K "NoMark") ok_NoMark := ok_NoMark_init (gx.nf_name _ (by decide)) F_NoMark_init p_NoMark_init
  obtain ⟨fd_NoLots_init, F_NoLots_init, p_NoLots_init⟩ := supX (P := P0) c X G rfl 8 rfl
  have o_NoLots : OkE0 P0 w K mg base 1 (He.fAd K ("NoLots", some "__init__")) P_NoLots_init (He.ga K "NoLots") := ok_NoLots_init F_NoLots_init p_NoLots_init
  obtain ⟨fd_BadInputs_init, F_BadInputs_init, p_BadInputs_init⟩ := supX (P := P0) c X G rfl 9 rfl
  have o_BadInputs : OkE P0 w K mg base 1 (He.fAd K ("BadInputs", some "__init__")) P_BadInputs_init 1 (He.ga K "BadInputs") ok_BadInputs := ok_BadInputs_init (gx.nf_index _ (by decide)) F_BadInputs_init p_BadInputs_init
  obtain ⟨fd_OtherScene_init, F_OtherScene_init, p_OtherScene_init⟩ := supX (P := P0) c X G rfl 10 rfl
  have o_OtherScene : OkE0 P0 w K mg base 1 (He.fAd K ("OtherScene", some "__init__")) P_OtherScene_init (He.ga K "OtherScene") := ok_OtherScene_init F_OtherScene_init p_OtherScene_init
  obtain ⟨fd_Unlike_init, F_Unlike_init, p_Unlike_init⟩ := supX (P := P0) c X G rfl 11 rfl
  have o_Unlike : OkE0 P0 w K mg base 1 (He.fAd K ("Unlike", some "__init__")) P_Unlike_init (He.ga K "Unlike") := ok_Unlike_init F_Unlike_init p_Unlike_init
  obtain ⟨fd_NotBare_init, F_NotBare_init, p_NotBare_init⟩ := supX (P := P0) c X G rfl 12 rfl
  have o_NotBare : OkE P0 w K mg base 1 (He.fAd K ("NotBare", some "__init__")) P_NotBare_init 1 (He.ga K "NotBare") ok_NotBare := ok_NotBare_init (gx.nf_index _ (by decide)) F_NotBare_init p_NotBare_init
  obtain ⟨fd_BadName_init, F_BadName_init, p_BadName_init⟩ := supX (P := P0) c X G rfl 13 rfl
  have o_BadName : OkE P0 w K mg base 1 (He.fAd K ("BadName", some "__init__")) P_BadName_init 1 (He.ga K "BadName") ok_BadName := ok_BadName_init (gx.nf_name _ (by decide)) F_BadName_init p_BadName_init
  obtain ⟨fd_NoButton_init, F_NoButton_init, p_NoButton_init⟩ := supX (P := P0) c X G rfl 14 rfl
  have o_NoButton : OkE P0 w K mg base 1 (He.fAd K ("NoButton", some "__init__")) P_NoButton_init 1 (He.ga K "NoButton") ok_NoButton := ok_NoButton_init (gx.nf_name _ (by decide)) F_NoButton_init p_NoButton_init
  obtain ⟨fd_Taken_init, F_Taken_init, p_Taken_init⟩ := supX (P := P0) c X G rfl 15 rfl
  have o_Taken : OkE P0 w K mg base 1 (He.fAd K ("Taken", some "__init__")) P_Taken_init 1 (He.ga K "Taken") ok_Taken := ok_Taken_init (gx.nf_name _ (by decide)) F_Taken_init p_Taken_init
  obtain ⟨fd_NoGuard_init, F_NoGuard_init, p_NoGuard_init⟩ := supX (P := P0) c X G rfl 16 rfl
  have o_NoGuard : OkE P0 w K mg base 1 (He.fAd K ("NoGuard", some "__init__")) P_NoGuard_init 1 (He.ga K "NoGuard") ok_NoGuard := ok_NoGuard_init (gx.nf_name _ (by decide)) F_NoGuard_init p_NoGuard_init
  obtain ⟨fd_Barred_init, F_Barred_init, p_Barred_init⟩ := supX (P := P0) c X G rfl 17 rfl
  have o_Barred : OkE P0 w K mg base 1 (He.fAd K ("Barred", some "__init__")) P_Barred_init 1 (He.ga K "Barred") ok_Barred := ok_Barred_init fx.b_len fx.b_list (gx.nf_names _ (by decide)) F_Barred_init p_Barred_init
  obtain ⟨fd_NothingToUndo_init, F_NothingToUndo_init, p_NothingToUndo_init⟩ := supX (P := P0) c X G rfl 18 rfl
  have o_NothingToUndo : OkE0 P0 w K mg base 1 (He.fAd K ("NothingToUndo", some "__init__")) P_NothingToUndo_init (He.ga K "NothingToUndo") := ok_NothingToUndo_init F_NothingToUndo_init p_NothingToUndo_init
  obtain ⟨fd__law_begun_pen, F__law_begun_pen⟩ := defX c 0 (d := d__law_begun_pen) rfl
  have o__law_begun_pen : OkF P0 w K mg base 1 (He.fAd K ("_law_begun_pen", none)) P__law_begun_pen (sp__law_begun_pen K) := ok__law_begun_pen fx gx  F__law_begun_pen
  obtain ⟨fd__law_draw, F__law_draw⟩ := defX c 1 (d := d__law_draw) rfl
  have o__law_draw : OkF P0 w K mg base 1 (He.fAd K ("_law_draw", none)) P__law_draw (sp__law_draw K) := ok__law_draw fx gx  F__law_draw
  obtain ⟨fd__law_shuffled, F__law_shuffled⟩ := defX c 2 (d := d__law_shuffled) rfl
  have o__law_shuffled : OkF P0 w K mg base 2 (He.fAd K ("_law_shuffled", none)) P__law_shuffled (sp__law_shuffled K) := ok__law_shuffled fx gx o__law_draw F__law_shuffled
  obtain ⟨fd__law_new_names, F__law_new_names⟩ := defX c 3 (d := d__law_new_names) rfl
  have o__law_new_names : OkF P0 w K mg base 3 (He.fAd K ("_law_new_names", none)) P__law_new_names (sp__law_new_names K) := ok__law_new_names fx gx o__law_shuffled F__law_new_names
  obtain ⟨fd__law_classes, F__law_classes⟩ := defX c 4 (d := d__law_classes) rfl
  have o__law_classes : OkF P0 w K mg base 1 (He.fAd K ("_law_classes", none)) P__law_classes (sp__law_classes K) := ok__law_classes fx gx  F__law_classes
  obtain ⟨fd__law_is_one, F__law_is_one⟩ := defX c 5 (d := d__law_is_one) rfl
  have o__law_is_one : OkF P0 w K mg base 2 (He.fAd K ("_law_is_one", none)) P__law_is_one (sp__law_is_one K) := ok__law_is_one fx gx o__law_classes F__law_is_one
  obtain ⟨fd__law_numbered, F__law_numbered⟩ := defX c 6 (d := d__law_numbered) rfl
  have o__law_numbered : OkF P0 w K mg base 3 (He.fAd K ("_law_numbered", none)) P__law_numbered (sp__law_numbered K) := ok__law_numbered fx gx o_BadInputs o_BadSaying o_BadScene o_BadScript o_BadWalk o_BadWorld o_NotBare F__law_numbered
  obtain ⟨fd__law_named, F__law_named⟩ := defX c 7 (d := d__law_named) rfl
  have o__law_named : OkF P0 w K mg base 3 (He.fAd K ("_law_named", none)) P__law_named (sp__law_named K) := ok__law_named fx gx o_BadName o_NoButton o_NoGuard o_NoMark o_NoRow o_NoThing o_Taken F__law_named
  obtain ⟨fd__law_others_right, F__law_others_right⟩ := defX c 8 (d := d__law_others_right) rfl
  have o__law_others_right : OkF P0 w K mg base 4 (He.fAd K ("_law_others_right", none)) P__law_others_right (sp__law_others_right K) := ok__law_others_right fx gx o__law_draw o__law_is_one o__law_new_names o_Barred o_NoLots o_NothingToUndo o_OtherScene o_Unlike F__law_others_right
  exact fg_law fx gx o__law_begun_pen o__law_draw o__law_is_one o__law_named o__law_new_names o__law_numbered o__law_others_right F
end
abbrev RR : PySem.W.OpenRow := PySem.W.OpenLaw.row PySem.Challenge.rw_seatedtwice_k18_errors
abbrev hk : PySem.W.Hook := hookX 5 P0.main.file faD fnD fsD exD
def ob (s : PySem.W.SharedT) : AlX := obsXG 5 P0.main.file faD fnD fsD exD (HandSHeadRun.getT s)
theorem ob_eq (s : PySem.W.SharedT) : ob s = hk.obs s.abs := obsXG_eq (HandSHeadRun.getT_eq s)
abbrev qV : Program := PySem.W.view RR.prog [31]
def looseD : List Str := ["__name__", "SeatError", "BadScene", "BadWorld", "BadScript", "BadSaying", "BadWalk", "NoThing", "NoRow", "NoMark", "NoLots", "BadInputs", "OtherScene", "Unlike", "NotBare", "BadName", "NoButton", "Taken", "NoGuard", "Barred", "NothingToUndo", "_law_begun_pen", "_law_draw", "_law_shuffled", "_law_new_names", "_law_classes", "_law_is_one", "_law_numbered", "_law_named", "_law_others_right"]
theorem run (w : World) : HandSHeadRun.RunEq RR qV hk ob 6000 looseD w := by
  intro os
  kernel_rfl
end K18
open PySem PySem.W PySem.Calls PyProof.Rows
theorem PySem.Challenge.cw_seatedtwice_k18_errors_holds : PySem.Challenge.rw_seatedtwice_k18_errors.Holds := by
  w_on; o_law
  refine HandSHeadRun.head_any (r := K18.RR) (q := K18.qV) (H := K18.hk) (ob := K18.ob) (M := 6000) (loose := K18.looseD) (d := HandSHeadRun.topDef K18.RR.prog 31) (kwd := []) K18.ob_eq (by kernel_rfl) (fun s => by kernel_rfl) K18.run (by kernel_rfl) (by kernel_rfl) (by kernel_rfl) (by rfl) (by first | assumption | decide +kernel) (by decide +kernel) ⟨rfl, rfl, rfl, rfl, rfl, by decide +kernel⟩ ?hw ?hc
  case hw => w_witness2
  case hc =>
    refine VL.walkG (l := PySem.Challenge.rw_seatedtwice_k18_errors) (n := 63) (k := 5) (x := "script") (sp := K18.sp_law) rfl (by decide) (by kernel_rfl) ⟨⟨rfl, by decide, by decide⟩, rfl⟩ ?F (fun K ns hl _ => ⟨ns, rfl, fun _ => rfl⟩)
    intro w mg fL h Y G hmg0
    obtain ⟨K, X, c⟩ := Y
    have hmg : mg ("law" : PySem.Str) = some (.ref fL) := by
      have e : (HandSHeadRun.topDef K18.RR.prog 31).name = ("law" : PySem.Str) := by kernel_rfl
      rw [← e]
      exact hmg0
    obtain ⟨fd, F⟩ := VL.defX c 9 (d := K18.d_law) rfl
    have e := hmg.symm.trans (K18.facts_of X G c).1.g_law
    cases e
    exact ⟨K, fd, X, fun s u => L2.FunD.bindsA (ps := ["script"]) F (fun _ _ _ _ _ _ us hl => match us, hl with | [_], _ => rfl) s [u] rfl, fun base _ _ => K18.law_kept X G c F⟩
